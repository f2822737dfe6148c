import PyProof.Rows.All
import Wide.All
import OpenK.AllK
import Wide.FinOn
import HandS.ForMost
import HandS.Exc
import HandS.ExcOwn
import HandS.ExcIs
import HandS.TryOnly
import HandS.WordsExc
import HandS.TupAny
import HandS.Flow
import KE.SortData
import PySem.Challenge.RW_warden_k39_admitted_texts_pass
set_option Elab.async false
set_option linter.all false
set_option maxRecDepth 100000
set_option maxHeartbeats 4000000
namespace K39
/-! ## 1. Relaxations: a table of costs that falls -/
abbrev Cs := List (Option Nat)
abbrev gt (c : Cs) (i : Nat) : Option Nat := c.getD i none

section
variable {ι : Type} (tg : ι → Nat) (nw : ι → Cs → Option Nat)
def stp (s : Cs × Bool) (i : ι) : Cs × Bool := match nw i s.1 with
  | none => s
  | some v => (s.1.set (tg i) (some v), true)
def turn (rs : List ι) (s : Cs × Bool) : Cs × Bool := rs.foldl (stp tg nw) s
/-- what falls, falls -/
structure Falls : Prop where
  lt : ∀ i c v, nw i c = some v → tg i < c.length
  less : ∀ i c v w, nw i c = some v → gt c (tg i) = some w → v < w
def it (rs : List ι) : Nat → Cs → Cs
  | 0, c => c
  | k + 1, c => it rs k (turn tg nw rs (c, false)).1
def Lim (rs : List ι) (c0 c : Cs) : Prop := ∃ k, c = it tg nw rs k c0 ∧ (turn tg nw rs (c, false)).2 = false
end
section
variable {ι : Type} {tg : ι → Nat} {nw : ι → Cs → Option Nat}
theorem turn_true : ∀ (rs : List ι) (c : Cs), (turn tg nw rs (c, true)).2 = true
  | [], c => rfl
  | i :: r, c => by
    show (turn tg nw r (stp tg nw (c, true) i)).2 = true
    unfold stp
    cases nw i c <;> exact turn_true r _
theorem turn_still : ∀ (rs : List ι) (c : Cs), (turn tg nw rs (c, false)).2 = false → (turn tg nw rs (c, false)).1 = c ∧ ∀ i ∈ rs, nw i c = none
  | [], c, _ => ⟨rfl, fun _ h => by cases h⟩
  | i :: r, c, h => by
    have e : turn tg nw (i :: r) (c, false) = turn tg nw r (stp tg nw (c, false) i) := rfl
    rw [e] at h ⊢
    cases q : nw i c with
    | some v =>
      have e2 : stp tg nw (c, false) i = (c.set (tg i) (some v), true) := by simp [stp, q]
      rw [e2, turn_true] at h
      cases h
    | none =>
      have e2 : stp tg nw (c, false) i = (c, false) := by simp [stp, q]
      rw [e2] at h ⊢
      obtain ⟨h1, h2⟩ := turn_still r c h
      exact ⟨h1, fun j hj => by
        rcases List.mem_cons.mp hj with rfl | hj
        · exact q
        · exact h2 j hj⟩
theorem it_still {rs : List ι} {c : Cs} (h : (turn tg nw rs (c, false)).2 = false) : ∀ k, it tg nw rs k c = c
  | 0 => rfl
  | k + 1 => by
    show it tg nw rs k (turn tg nw rs (c, false)).1 = c
    rw [(turn_still rs c h).1]
    exact it_still h k
theorem it_add {rs : List ι} : ∀ (k m : Nat) (c : Cs), it tg nw rs (k + m) c = it tg nw rs m (it tg nw rs k c)
  | 0, m, c => by rw [Nat.zero_add]; rfl
  | k + 1, m, c => by
    rw [show k + 1 + m = (k + m) + 1 by omega]
    exact it_add k m _
theorem Lim.one {rs : List ι} {c0 c d : Cs} (h1 : Lim tg nw rs c0 c) (h2 : Lim tg nw rs c0 d) : c = d := by
  obtain ⟨k, rfl, s1⟩ := h1
  obtain ⟨m, rfl, s2⟩ := h2
  rcases Nat.le_total k m with h | h
  · obtain ⟨j, rfl⟩ := Nat.exists_eq_add_of_le h
    rw [it_add, it_still s1]
  · obtain ⟨j, rfl⟩ := Nat.exists_eq_add_of_le h
    rw [it_add, it_still s2]
/-! the measure -/
def nones (c : Cs) : Nat := c.countP fun o => o.isNone
def total (c : Cs) : Nat := (c.map fun o => o.getD 0).sum
def Smaller (c d : Cs) : Prop := c.length = d.length ∧ (nones c < nones d ∨ nones c = nones d ∧ total c < total d)
theorem set_small : ∀ (c : Cs) (t v : Nat), t < c.length → (∀ w, gt c t = some w → v < w) → Smaller (c.set t (some v)) c
  | [], t, v, h, _ => by simp at h
  | o :: r, 0, v, _, h => by
    refine ⟨by simp, ?_⟩
    cases o with
    | none => left; simp [nones]
    | some w =>
      have := h w rfl
      right
      simp [nones, total, this]
  | o :: r, t + 1, v, h, hw => by
    obtain ⟨h1, h2⟩ := set_small r t v (by simpa using h) (fun w e => hw w (by simpa [gt] using e))
    refine ⟨by simp, ?_⟩
    have e1 : nones (o :: r.set t (some v)) = nones (r.set t (some v)) + (if o.isNone = true then 1 else 0) := by simp [nones, List.countP_cons]
    have e2 : nones (o :: r) = nones r + (if o.isNone = true then 1 else 0) := by simp [nones, List.countP_cons]
    have e3 : total (o :: r.set t (some v)) = o.getD 0 + total (r.set t (some v)) := by simp [total]
    have e4 : total (o :: r) = o.getD 0 + total r := by simp [total]
    show nones (o :: r.set t (some v)) < nones (o :: r) ∨ nones (o :: r.set t (some v)) = nones (o :: r) ∧ total (o :: r.set t (some v)) < total (o :: r)
    rw [e1, e2, e3, e4]
    omega
theorem Smaller.trans {a b c : Cs} (x : Smaller a b) (y : Smaller b c) : Smaller a c := by
  obtain ⟨l1, x⟩ := x
  obtain ⟨l2, y⟩ := y
  exact ⟨l1.trans l2, by omega⟩
theorem turn_small (F : Falls tg nw) : ∀ (rs : List ι) (s : Cs × Bool), (turn tg nw rs s = s ∨ (Smaller (turn tg nw rs s).1 s.1 ∧ (turn tg nw rs s).2 = true))
  | [], s => .inl rfl
  | i :: r, s => by
    have e : turn tg nw (i :: r) s = turn tg nw r (stp tg nw s i) := rfl
    rw [e]
    cases q : nw i s.1 with
    | none =>
      have e2 : stp tg nw s i = s := by simp [stp, q]
      rw [e2]
      exact turn_small F r s
    | some v =>
      have e2 : stp tg nw s i = (s.1.set (tg i) (some v), true) := by simp [stp, q]
      rw [e2]
      have sm := set_small s.1 (tg i) v (F.lt i _ v q) (fun w hw => F.less i _ v w q hw)
      rcases turn_small F r (s.1.set (tg i) (some v), true) with h | ⟨h, h2⟩
      · rw [h]; exact .inr ⟨sm, rfl⟩
      · exact .inr ⟨h.trans sm, h2⟩
theorem small_wf : WellFounded Smaller := by
  have w : WellFounded (fun (a b : Cs) => Prod.Lex Nat.lt Nat.lt (nones a, total a) (nones b, total b)) := InvImage.wf (fun c : Cs => (nones c, total c)) (Prod.lex ⟨_, Nat.lt_wfRel.wf⟩ ⟨_, Nat.lt_wfRel.wf⟩).wf
  refine Subrelation.wf ?_ w
  rintro a b ⟨_, h | ⟨h1, h2⟩⟩
  · exact Prod.Lex.left _ _ h
  · rw [h1]; exact Prod.Lex.right _ h2
theorem lim_ex (F : Falls tg nw) (rs : List ι) (c0 : Cs) : ∃ k, (turn tg nw rs (it tg nw rs k c0, false)).2 = false := by
  induction c0 using small_wf.induction with
  | _ c ih =>
    rcases turn_small F rs (c, false) with h | ⟨h, _⟩
    · exact ⟨0, by show (turn tg nw rs (c, false)).2 = false; rw [h]⟩
    · obtain ⟨k, hk⟩ := ih _ h
      exact ⟨k + 1, hk⟩
/-- how it gets better -/
def Imp (c d : Cs) : Prop := c.length = d.length ∧ ∀ i u, gt c i = some u → ∃ v, gt d i = some v ∧ v ≤ u
theorem Imp.refl (c : Cs) : Imp c c := ⟨rfl, fun _ u h => ⟨u, h, Nat.le_refl u⟩⟩
theorem Imp.trans {a b c : Cs} (x : Imp a b) (y : Imp b c) : Imp a c := ⟨x.1.trans y.1, fun i u h => by
  obtain ⟨v, h1, l1⟩ := x.2 i u h
  obtain ⟨w, h2, l2⟩ := y.2 i v h1
  exact ⟨w, h2, Nat.le_trans l2 l1⟩⟩
theorem gt_set {c : Cs} {t i : Nat} {o : Option Nat} : gt (c.set t o) i = if t = i ∧ t < c.length then o else gt c i := by
  unfold gt
  rw [List.getD_eq_getElem?_getD, List.getD_eq_getElem?_getD, List.getElem?_set]
  by_cases h : t = i
  · subst h
    by_cases h2 : t < c.length
    · simp [h2]
    · simp [h2, List.getElem?_eq_none (Nat.le_of_not_lt h2)]
  · simp [h]
theorem turn_imp (F : Falls tg nw) : ∀ (rs : List ι) (s : Cs × Bool), Imp s.1 (turn tg nw rs s).1
  | [], s => Imp.refl _
  | i :: r, s => by
    have e : turn tg nw (i :: r) s = turn tg nw r (stp tg nw s i) := rfl
    rw [e]
    refine Imp.trans ?_ (turn_imp F r _)
    cases q : nw i s.1 with
    | none =>
      have e2 : stp tg nw s i = s := by simp [stp, q]
      rw [e2]; exact Imp.refl _
    | some v =>
      have e2 : stp tg nw s i = (s.1.set (tg i) (some v), true) := by simp [stp, q]
      rw [e2]
      refine ⟨by simp, fun j u hu => ?_⟩
      show ∃ w, gt (s.1.set (tg i) (some v)) j = some w ∧ w ≤ u
      rw [gt_set]
      by_cases h : tg i = j ∧ tg i < s.1.length
      · rw [if_pos h]
        refine ⟨v, rfl, Nat.le_of_lt (F.less i _ v u q ?_)⟩
        rw [h.1]; exact hu
      · rw [if_neg h]; exact ⟨u, hu, Nat.le_refl u⟩
theorem it_imp (F : Falls tg nw) {rs : List ι} : ∀ (k : Nat) (c : Cs), Imp c (it tg nw rs k c)
  | 0, c => Imp.refl c
  | k + 1, c => (turn_imp F rs (c, false)).trans (it_imp F k _)
theorem turn_length (rs : List ι) (s : Cs × Bool) : (turn tg nw rs s).1.length = s.1.length := by
  induction rs generalizing s with
  | nil => rfl
  | cons i r ih =>
    show (turn tg nw r (stp tg nw s i)).1.length = _
    rw [ih]
    unfold stp
    split <;> simp
theorem it_length (rs : List ι) : ∀ (k : Nat) (c : Cs), (it tg nw rs k c).length = c.length
  | 0, c => rfl
  | k + 1, c => by
    show (it tg nw rs k _).length = _
    rw [it_length rs k, turn_length]
end

/-! ## 2. The two tables -/
def sp (S : List (List Nat)) (p q : Nat) : Nat := (S.getD p []).getD q 0
def prs (n : Nat) : List (Nat × Nat) := (List.range (n - 1)).flatMap fun i => (List.range (n - 1)).map fun j => (i + 1, j + 1)
def fallTo (o : Option Nat) (v : Nat) : Option Nat := match o with
  | none => some v
  | some w => if v < w then some v else none
/-- prices_fall -/
def nwP (S : List (List Nat)) (r : Nat × Nat) (c : Cs) : Option Nat :=
  if sp S r.1 r.2 ≠ 0 ∧ sp S r.1 r.2 < c.length then match gt c r.1, gt c r.2 with
    | some a, some b => fallTo (gt c (sp S r.1 r.2)) (a + b)
    | _, _ => none
  else none
def tgP (S : List (List Nat)) (r : Nat × Nat) : Nat := sp S r.1 r.2
/-- closing_costs -/
def nwC (S : List (List Nat)) (pr : Cs) (r : Nat × Nat) (c : Cs) : Option Nat :=
  if r.1 < c.length then match gt pr r.2, gt c (sp S r.1 r.2) with
    | some a, some b => fallTo (gt c r.1) (a + b)
    | _, _ => none
  else none
def tgC (r : Nat × Nat) : Nat := r.1
theorem fallTo_less {o : Option Nat} {v u w : Nat} (h : fallTo o v = some u) (e : o = some w) : u < w := by
  subst e
  unfold fallTo at h
  simp only at h
  split at h
  · cases h; assumption
  · cases h
theorem fallTo_val {o : Option Nat} {v u : Nat} (h : fallTo o v = some u) : u = v := by
  unfold fallTo at h
  split at h
  · cases h; rfl
  · split at h
    · cases h; rfl
    · cases h
theorem fallTo_none {o : Option Nat} {v : Nat} (h : fallTo o v = none) : ∃ w, o = some w ∧ w ≤ v := by
  unfold fallTo at h
  split at h
  · cases h
  · rename_i w
    split at h
    · cases h
    · exact ⟨w, rfl, by omega⟩
theorem fallsP (S : List (List Nat)) : Falls (tgP S) (nwP S) where
  lt := fun r c v h => by
    unfold nwP at h
    split at h
    · rename_i q; exact q.2
    · cases h
  less := fun r c v w h e => by
    unfold nwP at h
    split at h
    · split at h
      · exact fallTo_less h e
      · cases h
    · cases h
theorem fallsC (S : List (List Nat)) (pr : Cs) : Falls tgC (nwC S pr) where
  lt := fun r c v h => by
    unfold nwC at h
    split at h
    · assumption
    · cases h
  less := fun r c v w h e => by
    unfold nwC at h
    split at h
    · split at h
      · exact fallTo_less h e
      · cases h
    · cases h
theorem mem_prs {n p q : Nat} (hp : 1 ≤ p) (hp2 : p < n) (hq : 1 ≤ q) (hq2 : q < n) : (p, q) ∈ prs n := by
  unfold prs
  rw [List.mem_flatMap]
  refine ⟨p - 1, List.mem_range.mpr (by omega), List.mem_map.mpr ⟨q - 1, List.mem_range.mpr (by omega), ?_⟩⟩
  rw [show p - 1 + 1 = p by omega, show q - 1 + 1 = q by omega]
/-- closed under the steps -/
def ShutP (S : List (List Nat)) (n : Nat) (c : Cs) : Prop := ∀ p q a b, 1 ≤ p → p < n → 1 ≤ q → q < n → sp S p q ≠ 0 → sp S p q < n → gt c p = some a → gt c q = some b → ∃ u, gt c (sp S p q) = some u ∧ u ≤ a + b
def ShutC (S : List (List Nat)) (pr : Cs) (n : Nat) (c : Cs) : Prop := ∀ p q a b, 1 ≤ p → p < n → 1 ≤ q → q < n → gt pr q = some a → gt c (sp S p q) = some b → ∃ u, gt c p = some u ∧ u ≤ a + b
theorem still_shutP {S : List (List Nat)} {n : Nat} {c : Cs} (hl : c.length = n) (h : (turn (tgP S) (nwP S) (prs n) (c, false)).2 = false) : ShutP S n c := by
  intro p q a b hp hp2 hq hq2 h0 hn ha hb
  have e := (turn_still _ _ h).2 _ (mem_prs hp hp2 hq hq2)
  unfold nwP at e
  simp only [h0, hl, hn, ne_eq, not_false_eq_true, and_self, if_true, ha, hb] at e
  exact fallTo_none e
theorem still_shutC {S : List (List Nat)} {pr : Cs} {n : Nat} {c : Cs} (hl : c.length = n) (h : (turn tgC (nwC S pr) (prs n) (c, false)).2 = false) : ShutC S pr n c := by
  intro p q a b hp hp2 hq hq2 ha hb
  have e := (turn_still _ _ h).2 _ (mem_prs hp hp2 hq hq2)
  unfold nwC at e
  simp only [hl, hp2, if_true, ha, hb] at e
  exact fallTo_none e
/-- what closing_costs makes of what closing costs -/
def fst1 (closed : Cs) : Cs := closed.map fun o => o.map (· + 1)
def IsClosing (S : List (List Nat)) (pr closed c : Cs) : Prop := Lim tgC (nwC S pr) (prs S.length) (fst1 closed) c
open Classical in
noncomputable def closing (S : List (List Nat)) (pr closed : Cs) : Cs := if h : ∃ c, IsClosing S pr closed c then h.choose else []
theorem closing_is (S : List (List Nat)) (pr closed : Cs) : IsClosing S pr closed (closing S pr closed) := by
  obtain ⟨k, hk⟩ := lim_ex (fallsC S pr) (prs S.length) (fst1 closed)
  have h : ∃ c, IsClosing S pr closed c := ⟨_, k, rfl, hk⟩
  unfold closing
  rw [dif_pos h]
  exact h.choose_spec
theorem closing_of {S : List (List Nat)} {pr closed c : Cs} (h : IsClosing S pr closed c) : c = closing S pr closed := Lim.one h (closing_is S pr closed)
theorem closing_length (S : List (List Nat)) (pr closed : Cs) : (closing S pr closed).length = closed.length := by
  obtain ⟨k, e, _⟩ := closing_is S pr closed
  rw [e, it_length]
  simp [fst1]
theorem closing_shut {S : List (List Nat)} {pr closed : Cs} (hl : closed.length = S.length) : ShutC S pr S.length (closing S pr closed) := by
  obtain ⟨k, e, h⟩ := closing_is S pr closed
  exact still_shutC (by rw [closing_length, hl]) h
theorem gt_fst1 (c : Cs) (i : Nat) : gt (fst1 c) i = (gt c i).map (· + 1) := by
  unfold gt fst1
  rw [List.getD_eq_getElem?_getD, List.getD_eq_getElem?_getD, List.getElem?_map]
  cases c[i]? <;> rfl
theorem closing_le {S : List (List Nat)} {pr closed : Cs} {p u : Nat} (h : gt closed p = some u) : ∃ v, gt (closing S pr closed) p = some v ∧ v ≤ u + 1 := by
  obtain ⟨k, e, _⟩ := closing_is S pr closed
  rw [e]
  exact (it_imp (fallsC S pr) k (fst1 closed)).2 p (u + 1) (by rw [gt_fst1, h]; rfl)
/-! ## 3. Machines, trees, texts -/
abbrev Tx := List Nat
inductive T where
  | node (tag word : Tx) (kids : List T)
def wpart (w : Tx) : Tx := if w = [] then [] else 58 :: w
def label (g w : Tx) : Tx := if w = [] then g else g ++ [58]
mutual
def T.text : T → Tx
  | .node g w ks => g ++ wpart w ++ [40] ++ texts ks ++ [41]
def texts : List T → Tx
  | [] => []
  | t :: r => t.text ++ texts r
end
structure Mac where
  starts : List (Tx × Nat)
  steps : List (List Nat)
  good : List Nat
abbrev Mac.n (M : Mac) : Nat := M.steps.length
def startOf (ss : List (Tx × Nat)) (l : Tx) : Option Nat := (ss.find? fun p => decide (p.1 = l)).map (·.2)
mutual
def T.st (M : Mac) : T → Nat
  | .node g w ks => sts M ((startOf M.starts (label g w)).getD 0) ks
def sts (M : Mac) (p : Nat) : List T → Nat
  | [] => p
  | t :: r => sts M (sp M.steps p (t.st M)) r
end
def isLow (c : Nat) : Prop := 97 ≤ c ∧ c ≤ 122
def isFig (c : Nat) : Prop := 48 ≤ c ∧ c ≤ 57
instance (c : Nat) : Decidable (isLow c) := inferInstanceAs (Decidable (_ ∧ _))
instance (c : Nat) : Decidable (isFig c) := inferInstanceAs (Decidable (_ ∧ _))
def TagOk (g : Tx) : Prop := (g ≠ [] ∧ g.length ≤ 8) ∧ ∀ c ∈ g, isLow c
def WordOk (w : Tx) : Prop := w.length ≤ 60 ∧ ∀ c ∈ w, isLow c ∨ isFig c
mutual
def T.Ok : T → Prop
  | .node g w ks => TagOk g ∧ WordOk w ∧ Oks ks
def Oks : List T → Prop
  | [] => True
  | t :: r => t.Ok ∧ Oks r
end
/-- a label: a tag, perhaps with a colon -/
def LabOk (l : Tx) : Prop := ∃ g, TagOk g ∧ (l = g ∨ l = g ++ [58])
structure Mac.Ok (M : Mac) : Prop where
  labs : ∀ p ∈ M.starts, LabOk p.1
  uniq : (M.starts.map (·.1)).Nodup
  st_lt : ∀ p ∈ M.starts, p.2 < M.n
  st_pos : ∀ p ∈ M.starts, 1 ≤ p.2
  row : ∀ r ∈ M.steps, r.length = M.n ∧ ∀ q ∈ r, q < M.n
  pos : 1 ≤ M.n
  dead1 : ∀ q, sp M.steps 0 q = 0
  dead2 : ∀ p, sp M.steps p 0 = 0
  good_lt : ∀ s ∈ M.good, s < M.n
  good_pos : ∀ s ∈ M.good, 1 ≤ s
  small : M.n ≤ 100
  few : M.starts.length ≤ 100

theorem sp_lt {M : Mac} (h : M.Ok) (p q : Nat) : sp M.steps p q < M.n := by
  unfold sp
  by_cases hp : p < M.steps.length
  · have e : M.steps.getD p [] = M.steps[p] := by simp [List.getD_eq_getElem?_getD, hp]
    rw [e]
    obtain ⟨h1, h2⟩ := h.row _ (List.getElem_mem hp)
    by_cases hq : q < M.steps[p].length
    · have e2 : M.steps[p].getD q 0 = M.steps[p][q] := by simp [List.getD_eq_getElem?_getD, hq]
      rw [e2]
      exact h2 _ (List.getElem_mem hq)
    · have e2 : M.steps[p].getD q 0 = 0 := by simp [List.getD_eq_getElem?_getD, Nat.le_of_not_lt hq]
      rw [e2]; exact h.pos
  · have e : M.steps.getD p [] = [] := by simp [List.getD_eq_getElem?_getD, Nat.le_of_not_lt hp]
    rw [e]
    exact h.pos
theorem startOf_mem {ss : List (Tx × Nat)} {l : Tx} {s : Nat} (h : startOf ss l = some s) : (l, s) ∈ ss := by
  unfold startOf at h
  cases e : ss.find? fun p => decide (p.1 = l) with
  | none => rw [e] at h; cases h
  | some p =>
    rw [e] at h
    have h1 := List.mem_of_find?_eq_some e
    have h2 : p.1 = l := by simpa using List.find?_some e
    obtain ⟨a, b⟩ := p
    simp at h h2
    subst h h2
    exact h1
theorem mem_startOf : ∀ {ss : List (Tx × Nat)} {l : Tx} {s : Nat}, (ss.map (·.1)).Nodup → (l, s) ∈ ss → startOf ss l = some s
  | [], _, _, _, h => by cases h
  | (a, b) :: r, l, s, hn, h => by
    rw [List.map_cons, List.nodup_cons] at hn
    unfold startOf
    rw [List.find?_cons]
    by_cases e : a = l
    · subst e
      simp only [decide_true]
      rcases List.mem_cons.mp h with h | h
      · cases h; rfl
      · exact absurd (List.mem_map.mpr ⟨(a, s), h, rfl⟩) hn.1
    · simp only [e, decide_false]
      rcases List.mem_cons.mp h with h | h
      · cases h; exact absurd rfl e
      · exact mem_startOf hn.2 h
theorem start_lt {M : Mac} (h : M.Ok) (l : Tx) : (startOf M.starts l).getD 0 < M.n := by
  cases e : startOf M.starts l with
  | none => exact h.pos
  | some s => exact h.st_lt _ (startOf_mem e)
mutual
theorem st_lt {M : Mac} (h : M.Ok) : ∀ t : T, t.st M < M.n
  | .node g w ks => sts_lt h ks _ (start_lt h _)
theorem sts_lt {M : Mac} (h : M.Ok) : ∀ (ks : List T) (p : Nat), p < M.n → sts M p ks < M.n
  | [], p, hp => hp
  | t :: r, p, hp => sts_lt h r _ (sp_lt h _ _)
end
theorem sts_zero {M : Mac} (h : M.Ok) : ∀ ks : List T, sts M 0 ks = 0
  | [] => rfl
  | t :: r => by
    show sts M (sp M.steps 0 (t.st M)) r = 0
    rw [h.dead1]
    exact sts_zero h r
theorem sts_ne {M : Mac} (h : M.Ok) {t : T} {r : List T} {p : Nat} (hz : sts M p (t :: r) ≠ 0) : sp M.steps p (t.st M) ≠ 0 ∧ p ≠ 0 ∧ t.st M ≠ 0 := by
  have e : sts M p (t :: r) = sts M (sp M.steps p (t.st M)) r := rfl
  rw [e] at hz
  have a : sp M.steps p (t.st M) ≠ 0 := fun q => hz (by rw [q]; exact sts_zero h r)
  exact ⟨a, fun q => a (by rw [q]; exact h.dead1 _), fun q => a (by rw [q]; exact h.dead2 _)⟩
theorem sts_ne0 {M : Mac} (h : M.Ok) {ks : List T} {p : Nat} (hz : sts M p ks ≠ 0) : p ≠ 0 := fun q => hz (by rw [q]; exact sts_zero h ks)

/-! ## 4. Prices -/
def colonEnd (l : Tx) : Bool := decide (l.getLast? = some 58)
def priceOf (l : Tx) : Nat := if colonEnd l then l.length + 3 else l.length + 2
structure PricesOk (M : Mac) (pr : Cs) : Prop where
  len : pr.length = M.n
  start : ∀ p ∈ M.starts, ∃ u, gt pr p.2 = some u ∧ u ≤ priceOf p.1
  shut : ShutP M.steps M.n pr
theorem low_ne {c : Nat} (h : isLow c) : c ≠ 58 ∧ c ≠ 40 ∧ c ≠ 41 := by unfold isLow at h; omega
theorem tag_last {g : Tx} (h : TagOk g) : colonEnd g = false := by
  unfold colonEnd
  rw [decide_eq_false_iff_not]
  intro e
  exact (low_ne (h.2 _ (List.mem_of_getLast? e))).1 rfl
theorem colon_last (g : Tx) : colonEnd (g ++ [58]) = true := by
  unfold colonEnd
  simp
theorem label_price {g w : Tx} (hg : TagOk g) : priceOf (label g w) ≤ g.length + (wpart w).length + 2 := by
  unfold label wpart priceOf
  by_cases h : w = []
  · rw [if_pos h, if_pos h, tag_last hg]
    simp
  · rw [if_neg h, if_neg h, colon_last]
    have : 1 ≤ w.length := by cases w with | nil => exact absurd rfl h | cons => simp
    simp
    omega
mutual
theorem price_le {M : Mac} {pr : Cs} (h : M.Ok) (hp : PricesOk M pr) : ∀ t : T, t.Ok → t.st M ≠ 0 → ∃ u, gt pr (t.st M) = some u ∧ u ≤ t.text.length
  | .node g w ks, ok, hz => by
    obtain ⟨hg, hw, hk⟩ := ok
    have hz' : sts M ((startOf M.starts (label g w)).getD 0) ks ≠ 0 := hz
    have hs := sts_ne0 h hz'
    cases e : startOf M.starts (label g w) with
    | none => rw [e] at hs; exact absurd rfl hs
    | some s =>
      rw [e] at hz'
      obtain ⟨u, h1, h2⟩ := hp.start _ (startOf_mem e)
      have h3 := label_price (w := w) hg
      obtain ⟨v, h4, h5⟩ := prices_le h hp ks s u hk (h.st_lt _ (startOf_mem e)) h1 hz'
      refine ⟨v, ?_, ?_⟩
      · show gt pr (sts M ((startOf M.starts (label g w)).getD 0) ks) = some v
        rw [e]; exact h4
      · show v ≤ (g ++ wpart w ++ [40] ++ texts ks ++ [41]).length
        simp only [List.length_append, List.length_cons, List.length_nil]
        simp only at h2
        omega
theorem prices_le {M : Mac} {pr : Cs} (h : M.Ok) (hp : PricesOk M pr) : ∀ (ks : List T) (p u : Nat), Oks ks → p < M.n → gt pr p = some u → sts M p ks ≠ 0 → ∃ v, gt pr (sts M p ks) = some v ∧ v ≤ u + (texts ks).length
  | [], p, u, _, _, e, _ => ⟨u, e, Nat.le_add_right _ _⟩
  | t :: r, p, u, ok, hlt, e, hz => by
    obtain ⟨h1, h2, h3⟩ := sts_ne h hz
    obtain ⟨ok1, ok2⟩ := ok
    obtain ⟨a, ha, ha2⟩ := price_le h hp t ok1 h3
    obtain ⟨b, hb, hb2⟩ := hp.shut p (t.st M) u a (by omega) hlt (by omega) (st_lt h t) h1 (sp_lt h _ _) e ha
    obtain ⟨v, hv, hv2⟩ := prices_le h hp r (sp M.steps p (t.st M)) b ok2 (sp_lt h _ _) hb hz
    refine ⟨v, hv, ?_⟩
    show v ≤ u + (t.text ++ texts r).length
    rw [List.length_append]
    omega
end

/-! ## 5. The reader -/
structure RM extends Mac where
  prices : Cs
structure RS where
  /-- the open nodes, the innermost first: the state, the costs within -/
  stk : List (Nat × Cs)
  head : Tx
  signs : Nat
  whole : Bool
def R0 : RS := ⟨[], [], 0, false⟩
def closedOf (M : RM) (R : RS) : Cs := match R.stk with
  | [] => M.good.foldl (fun c s => c.set s (some 0)) (List.replicate M.n none)
  | (p, c) :: _ => (List.range M.n).map fun s => gt c (sp M.steps p s)
noncomputable def innerOf (M : RM) (R : RS) : Cs := closing M.steps M.prices (closedOf M R)
/-- what a start costs behind a head -/
def costBy (h : Tx) (signs : Nat) (l : Tx) (o : Option Nat) : Option Nat := match o with
  | none => none
  | some c => if l.take h.length = h then some (c + (l.length - h.length) + 1 + (if colonEnd l = true ∧ (h ≠ l ∨ signs = 0) then 1 else 0)) else none
def better (best : Option (Nat × Tx)) (o : Option Nat) (l : Tx) : Option (Nat × Tx) := match o with
  | none => best
  | some c => match best with
    | none => some (c, l)
    | some b => if c < b.1 then some (c, l) else some b
def cheapBy (inner : Cs) (h : Tx) (signs : Nat) (ss : List (Tx × Nat)) (best : Option (Nat × Tx)) : Option (Nat × Tx) :=
  ss.foldl (fun b p => better b (costBy h signs p.1 (gt inner p.2)) p.1) best
noncomputable def cheapest (M : RM) (R : RS) (h : Tx) : Option (Nat × Tx) := cheapBy (innerOf M R) h R.signs M.starts none
def closes (M : RM) (R : RS) : Bool := match R.stk with
  | [] => false
  | [(s, _)] => decide (s ∈ M.good)
  | (s, _) :: (p, c) :: _ => (gt c (sp M.steps p s)).isSome
noncomputable def fitsS (M : RM) (R : RS) (c : Nat) : Bool :=
  if R.whole then false
  else if colonEnd R.head then (if c = 40 then decide (0 < R.signs) else decide (isLow c ∨ isFig c) && decide (R.signs < 60))
  else if c = 40 then (match startOf M.starts R.head with
    | none => false
    | some s => (gt (innerOf M R) s).isSome)
  else if c = 41 then decide (R.head = []) && closes M R
  else (decide (isLow c) || decide (c = 58)) && (cheapest M R (R.head ++ [c])).isSome
noncomputable def takeS (M : RM) (R : RS) (c : Nat) : RS :=
  if c = 40 then ⟨((startOf M.starts R.head).getD 0, innerOf M R) :: R.stk, [], 0, R.whole⟩
  else if c = 41 then (match R.stk with
    | [] => R
    | [_] => { R with stk := [], whole := true }
    | (s, _) :: (p, c) :: r => { R with stk := (sp M.steps p s, c) :: r, whole := false })
  else if colonEnd R.head then { R with signs := R.signs + 1 }
  else { R with head := R.head ++ [c] }
noncomputable def leftS (M : RM) (R : RS) : Option Nat :=
  if R.whole then some 0
  else match R.head, R.stk with
    | [], (p, c) :: _ => gt c p
    | h, _ => (cheapest M R h).map (·.1)

theorem cheap_le {inner : Cs} {h : Tx} {signs : Nat} : ∀ (ss : List (Tx × Nat)) (best : Option (Nat × Tx)) (u : Nat),
    ((∃ l, best = some (u, l)) ∨ ∃ p ∈ ss, costBy h signs p.1 (gt inner p.2) = some u) → ∃ v l, cheapBy inner h signs ss best = some (v, l) ∧ v ≤ u
  | [], best, u, hyp => by
    rcases hyp with ⟨l, e⟩ | ⟨p, hp, _⟩
    · exact ⟨u, l, e, Nat.le_refl u⟩
    · cases hp
  | q :: r, best, u, hyp => by
    show ∃ v l, cheapBy inner h signs r (better best (costBy h signs q.1 (gt inner q.2)) q.1) = some (v, l) ∧ v ≤ u
    have go : ∀ w l, better best (costBy h signs q.1 (gt inner q.2)) q.1 = some (w, l) → w ≤ u → ∃ v l, cheapBy inner h signs r (better best (costBy h signs q.1 (gt inner q.2)) q.1) = some (v, l) ∧ v ≤ u := fun w l e hw => by
      obtain ⟨v, l', e2, h2⟩ := cheap_le r _ w (.inl ⟨l, e⟩)
      exact ⟨v, l', e2, Nat.le_trans h2 hw⟩
    rcases hyp with ⟨l, e⟩ | ⟨p, hp, e⟩
    · subst e
      cases ec : costBy h signs q.1 (gt inner q.2) with
      | none => rw [← ec]; exact go u l (by rw [ec]; rfl) (Nat.le_refl u)
      | some c =>
        rw [← ec]
        by_cases hc : c < u
        · exact go c q.1 (by rw [ec]; show (if c < u then _ else _) = _; rw [if_pos hc]) (Nat.le_of_lt hc)
        · exact go u l (by rw [ec]; show (if c < u then _ else _) = _; rw [if_neg hc]) (Nat.le_refl u)
    · rcases List.mem_cons.mp hp with rfl | hp
      · cases best with
        | none => exact go u p.1 (by rw [e]; rfl) (Nat.le_refl u)
        | some b =>
          by_cases hc : u < b.1
          · exact go u p.1 (by rw [e]; show (if u < b.1 then _ else _) = _; rw [if_pos hc]) (Nat.le_refl u)
          · exact go b.1 b.2 (by rw [e]; show (if u < b.1 then _ else _) = _; rw [if_neg hc]) (by omega)
      · exact cheap_le r _ u (.inr ⟨p, hp, e⟩)
theorem cheap_some {inner : Cs} {h : Tx} {signs : Nat} : ∀ (ss : List (Tx × Nat)) (best : Option (Nat × Tx)), (cheapBy inner h signs ss best).isSome = true → best.isSome = true ∨ ∃ p ∈ ss, p.1.take h.length = h
  | [], best, e => .inl e
  | q :: r, best, e => by
    have e' : (cheapBy inner h signs r (better best (costBy h signs q.1 (gt inner q.2)) q.1)).isSome = true := e
    rcases cheap_some r _ e' with h1 | ⟨p, hp, h1⟩
    · cases ec : costBy h signs q.1 (gt inner q.2) with
      | none => rw [ec] at h1; exact .inl h1
      | some c =>
        refine .inr ⟨q, List.mem_cons_self, ?_⟩
        unfold costBy at ec
        split at ec
        · cases ec
        · split at ec
          · assumption
          · cases ec
    · exact .inr ⟨p, List.mem_cons_of_mem _ hp, h1⟩

/-- what holds of a reader -/
structure RInv (M : RM) (R : RS) : Prop where
  stk : ∀ p ∈ R.stk, p.1 < M.n ∧ p.2.length = M.n ∧ ShutC M.steps M.prices M.n p.2
  head : R.head = [] ∨ ∃ p ∈ M.starts, p.1.take R.head.length = R.head
  sg : colonEnd R.head = false → R.signs = 0
  wh : R.whole = true → R.stk = [] ∧ R.head = []
theorem rinv0 (M : RM) : RInv M R0 := ⟨fun _ h => (by cases h), .inl rfl, fun _ => rfl, fun h => (by cases h)⟩
theorem closed_len (M : RM) (R : RS) : (closedOf M R).length = M.n := by
  unfold closedOf
  split
  · have : ∀ (g : List Nat) (c : Cs), (g.foldl (fun c s => c.set s (some 0)) c).length = c.length := by
      intro g
      induction g with
      | nil => intro c; rfl
      | cons s r ih => intro c; rw [List.foldl_cons, ih]; simp
    rw [this]; simp
  · simp
theorem inner_len (M : RM) (R : RS) : (innerOf M R).length = M.n := by
  unfold innerOf
  rw [closing_length, closed_len]
theorem inner_shut (M : RM) (R : RS) : ShutC M.steps M.prices M.n (innerOf M R) := closing_shut (closed_len M R)
theorem head_len {M : RM} {R : RS} (I : RInv M R) {B : Nat} (h : ∀ p ∈ M.starts, p.1.length ≤ B) : R.head.length ≤ B := by
  rcases I.head with e | ⟨p, hp, e⟩
  · rw [e]; exact Nat.zero_le _
  · have h1 := h p hp
    have h2 : R.head.length = (p.1.take R.head.length).length := by rw [e]
    rw [List.length_take] at h2
    omega
theorem take_pre {l h : Tx} (e : l.take h.length = h) : ∃ r, l = h ++ r := ⟨l.drop h.length, by
  have := (List.take_append_drop h.length l).symm
  rw [e] at this
  exact this⟩
theorem pre_take {l h r : Tx} (e : l = h ++ r) : l.take h.length = h := by subst e; simp
/-- a head with a colon at its end is a start's label -/
theorem head_colon {M : RM} (hM : M.toMac.Ok) {R : RS} (I : RInv M R) (h : colonEnd R.head = true) : ∃ s, (R.head, s) ∈ M.starts := by
  rcases I.head with e | ⟨p, hp, e⟩
  · rw [e] at h; cases h
  · obtain ⟨r, er⟩ := take_pre e
    obtain ⟨g, hg, hl⟩ := hM.labs p hp
    unfold colonEnd at h
    rw [decide_eq_true_eq] at h
    have hr : r = [] := by
      cases r with
      | nil => rfl
      | cons a r =>
        have hc : (58 : Nat) ∈ R.head := List.mem_of_getLast? h
        obtain ⟨hd, e1⟩ : ∃ hd, R.head = hd ++ [58] := by
          rw [List.getLast?_eq_some_iff] at h
          exact h
        rcases hl with hl | hl
        · have : (58 : Nat) ∈ g := by rw [← hl, er]; exact List.mem_append_left _ hc
          exact absurd rfl (low_ne (hg.2 _ this)).1
        · have hlen : R.head.length ≤ g.length := by
            have q := congrArg List.length er
            rw [hl] at q
            simp at q
            omega
          have : (58 : Nat) ∈ g := by
            have e2 : (g ++ [58]).take R.head.length = R.head := by rw [← hl]; exact e
            rw [List.take_append_of_le_length hlen] at e2
            rw [← e2] at hc
            exact List.mem_of_mem_take hc
          exact absurd rfl (low_ne (hg.2 _ this)).1
    subst hr
    rw [List.append_nil] at er
    exact ⟨p.2, by rw [← er]; exact hp⟩
/-- a sign that fits keeps what holds -/
theorem rinv_take {M : RM} (hM : M.toMac.Ok) {R : RS} (I : RInv M R) {c : Nat} (hf : fitsS M R c = true) : RInv M (takeS M R c) := by
  have hw : R.whole = false := by
    cases e : R.whole with
    | false => rfl
    | true => unfold fitsS at hf; rw [e] at hf; cases hf
  unfold takeS
  by_cases h40 : c = 40
  · rw [if_pos h40]
    refine ⟨?_, .inl rfl, fun _ => rfl, fun h => ?_⟩
    · intro p hp
      rcases List.mem_cons.mp hp with rfl | hp
      · exact ⟨start_lt hM _, inner_len M R, inner_shut M R⟩
      · exact I.stk p hp
    · have h' : R.whole = true := h
      rw [hw] at h'; cases h'
  rw [if_neg h40]
  by_cases h41 : c = 41
  · rw [if_pos h41]
    have hh : R.head = [] := by
      unfold fitsS at hf
      rw [hw] at hf
      by_cases hc : colonEnd R.head = true
      · rw [hc, if_neg (by simp), if_pos rfl, if_neg h40, h41] at hf
        simp [isLow, isFig] at hf
      · rw [if_neg (by simp), if_neg hc, if_neg h40, if_pos h41] at hf
        simp at hf
        exact hf.1
    split
    · exact I
    · exact ⟨fun _ h => by (cases h), I.head, I.sg, fun _ => ⟨rfl, hh⟩⟩
    · rename_i s _ p c2 r e
      refine ⟨?_, I.head, I.sg, fun h => by cases h⟩
      intro q hq
      rcases List.mem_cons.mp hq with rfl | hq
      · have := I.stk (p, c2) (by rw [e]; simp)
        exact ⟨sp_lt hM _ _, this.2⟩
      · exact I.stk q (by rw [e]; simp [hq])
  rw [if_neg h41]
  by_cases hc : colonEnd R.head = true
  · rw [if_pos hc]
    exact ⟨I.stk, I.head, fun h => (by rw [show colonEnd R.head = false from h] at hc; cases hc), fun h => I.wh h⟩
  · rw [if_neg hc]
    unfold fitsS at hf
    rw [hw, if_neg (by simp), if_neg hc, if_neg h40, if_neg h41] at hf
    rw [Bool.and_eq_true] at hf
    refine ⟨I.stk, .inr ?_, fun _ => I.sg (by simpa using hc), fun h => ?_⟩
    · rcases cheap_some _ _ hf.2 with h | h
      · cases h
      · exact h
    · have h' : R.whole = true := h
      rw [hw] at h'; cases h'
/-! ## 6. Reading a text -/
noncomputable def goS (M : RM) : RS → Tx → Option RS
  | R, [] => some R
  | R, c :: r => if fitsS M R c = true then goS M (takeS M R c) r else none
theorem goS_cons {M : RM} {R R' : RS} {c : Nat} {r : Tx} (h : goS M R (c :: r) = some R') : fitsS M R c = true ∧ goS M (takeS M R c) r = some R' := by
  unfold goS at h
  split at h
  · exact ⟨by assumption, h⟩
  · cases h
theorem goS_append {M : RM} : ∀ {a b : Tx} {R R' : RS}, goS M R (a ++ b) = some R' → ∃ R1, goS M R a = some R1 ∧ goS M R1 b = some R'
  | [], b, R, R', h => ⟨R, rfl, h⟩
  | c :: a, b, R, R', h => by
    obtain ⟨h1, h2⟩ := goS_cons (r := a ++ b) h
    obtain ⟨R1, h3, h4⟩ := goS_append h2
    refine ⟨R1, ?_, h4⟩
    show (if fitsS M R c = true then goS M (takeS M R c) a else none) = some R1
    rw [if_pos h1]; exact h3
def closeS (M : RM) (R : RS) (s : Nat) : RS := match R.stk with
  | [] => ⟨[], [], 0, true⟩
  | (p, c) :: r => ⟨(sp M.steps p s, c) :: r, [], 0, false⟩
theorem colon_snoc {h : Tx} {c : Nat} (hc : c ≠ 58) : colonEnd (h ++ [c]) = false := by
  unfold colonEnd
  simp [hc]
theorem take_letter (M : RM) {R : RS} {c : Nat} (h1 : c ≠ 40) (h2 : c ≠ 41) (h3 : colonEnd R.head = false) : takeS M R c = { R with head := R.head ++ [c] } := by
  unfold takeS
  rw [if_neg h1, if_neg h2, if_neg (by rw [h3]; simp)]
theorem take_word (M : RM) {R : RS} {c : Nat} (h1 : c ≠ 40) (h2 : c ≠ 41) (h3 : colonEnd R.head = true) : takeS M R c = { R with signs := R.signs + 1 } := by
  unfold takeS
  rw [if_neg h1, if_neg h2, if_pos h3]
theorem take_open (M : RM) (R : RS) : takeS M R 40 = ⟨((startOf M.starts R.head).getD 0, innerOf M R) :: R.stk, [], 0, R.whole⟩ := by
  unfold takeS
  rw [if_pos rfl]
theorem word_ne {c : Nat} (h : isLow c ∨ isFig c) : c ≠ 40 ∧ c ≠ 41 ∧ c ≠ 58 := by unfold isLow isFig at h; omega
theorem go_letters {M : RM} : ∀ (g : Tx) (R R' : RS), (∀ c ∈ g, isLow c) → colonEnd R.head = false → goS M R g = some R' → R' = { R with head := R.head ++ g } ∧ colonEnd R'.head = false
  | [], R, R', _, hc, h => by
    cases h
    exact ⟨by simp, hc⟩
  | c :: g, R, R', hg, hc, h => by
    obtain ⟨_, h2⟩ := goS_cons h
    have q := low_ne (hg c List.mem_cons_self)
    rw [take_letter M q.2.1 q.2.2 hc] at h2
    obtain ⟨e, h3⟩ := go_letters g _ R' (fun x hx => hg x (List.mem_cons_of_mem _ hx)) (colon_snoc q.1) h2
    refine ⟨?_, h3⟩
    rw [e]
    simp
theorem go_word {M : RM} : ∀ (w : Tx) (R R' : RS), (∀ c ∈ w, isLow c ∨ isFig c) → colonEnd R.head = true → goS M R w = some R' → R' = { R with signs := R.signs + w.length }
  | [], R, R', _, hc, h => by
    cases h; rfl
  | c :: w, R, R', hw, hc, h => by
    obtain ⟨_, h2⟩ := goS_cons h
    have q := word_ne (hw c List.mem_cons_self)
    rw [take_word M q.1 q.2.1 hc] at h2
    have e := go_word w { R with signs := R.signs + 1 } R' (fun x hx => hw x (List.mem_cons_of_mem _ hx)) hc h2
    rw [e]
    simp
    omega
theorem go_open {M : RM} {g w : Tx} (hg : TagOk g) (hw : WordOk w) {R R' : RS} (hh : R.head = []) (h : goS M R (g ++ wpart w ++ [40]) = some R') :
    R' = ⟨((startOf M.starts (label g w)).getD 0, innerOf M R) :: R.stk, [], 0, R.whole⟩ := by
  rw [List.append_assoc] at h
  obtain ⟨R1, h1, h2⟩ := goS_append h
  obtain ⟨e1, c1⟩ := go_letters g R R1 hg.2 (by rw [hh]; rfl) h1
  rw [hh, List.nil_append] at e1
  obtain ⟨R2, h3, h4⟩ := goS_append h2
  have key : R2.head = label g w ∧ R2.stk = R.stk ∧ R2.whole = R.whole := by
    unfold wpart at h3
    unfold label
    by_cases hz : w = []
    · rw [if_pos hz] at h3 ⊢
      cases h3
      rw [e1]
      exact ⟨rfl, rfl, rfl⟩
    · rw [if_neg hz] at h3 ⊢
      obtain ⟨_, h5⟩ := goS_cons h3
      rw [take_letter M (by decide) (by decide) c1] at h5
      have e2 := go_word w _ R2 hw.2 (colon_last _) h5
      rw [e2, e1]
      exact ⟨rfl, rfl, rfl⟩
  obtain ⟨k1, k2, k3⟩ := key
  obtain ⟨_, h6⟩ := goS_cons h4
  rw [take_open] at h6
  have e : innerOf M R2 = innerOf M R := by unfold innerOf closedOf; rw [k2]
  have h7 := Option.some.inj h6
  rw [← h7, k1, k2, k3, e]
theorem fits_close {M : RM} {R : RS} (hh : R.head = []) (h : fitsS M R 41 = true) : closes M R = true := by
  unfold fitsS at h
  split at h
  · cases h
  · rw [hh] at h
    simpa [colonEnd] using h
theorem take_close {M : RM} {stk : List (Nat × Cs)} {s : Nat} {ci : Cs} : takeS M ⟨(s, ci) :: stk, [], 0, false⟩ 41 = closeS M ⟨stk, [], 0, false⟩ s := by
  unfold takeS closeS
  rw [if_neg (by decide), if_pos rfl]
  cases stk with
  | nil => rfl
  | cons p r => rfl
mutual
theorem go_tree {M : RM} : ∀ (t : T) (R R' : RS), t.Ok → R.head = [] → R.whole = false → goS M R t.text = some R' → R' = closeS M R (t.st M.toMac) ∧ (R.stk = [] → t.st M.toMac ∈ M.good)
  | .node g w ks, R, R', ok, hh, hw, h => by
    obtain ⟨og, ow, ok2⟩ := ok
    have h' : goS M R (g ++ wpart w ++ [40] ++ texts ks ++ [41]) = some R' := h
    obtain ⟨R2, h2, h3⟩ := goS_append h'
    obtain ⟨R1, h1, h4⟩ := goS_append h2
    have e1 := go_open og ow hh h1
    rw [hw] at e1
    subst e1
    have e2 := go_kids ks _ _ _ R2 ok2 h4
    subst e2
    obtain ⟨f, h5⟩ := goS_cons h3
    rw [take_close] at h5
    have h6 := Option.some.inj h5
    refine ⟨?_, fun e => ?_⟩
    · rw [← h6]; rfl
    · have c := fits_close rfl f
      unfold closes at c
      rw [e] at c
      exact of_decide_eq_true c
theorem go_kids {M : RM} : ∀ (ks : List T) (p : Nat) (c : Cs) (r : List (Nat × Cs)) (R' : RS), Oks ks → goS M ⟨(p, c) :: r, [], 0, false⟩ (texts ks) = some R' → R' = ⟨(sts M.toMac p ks, c) :: r, [], 0, false⟩
  | [], p, c, r, R', _, h => (Option.some.inj h).symm
  | t :: ks, p, c, r, R', ok, h => by
    have h' : goS M ⟨(p, c) :: r, [], 0, false⟩ (t.text ++ texts ks) = some R' := h
    obtain ⟨R1, h1, h2⟩ := goS_append h'
    obtain ⟨e1, _⟩ := go_tree t _ R1 ok.1 rfl rfl h1
    subst e1
    exact go_kids ks _ c r R' ok.2 h2
end

/-! ## 7. An admitted tree's text passes, and left bears -/
def Up (c : Cs) (p k : Nat) : Prop := ∃ u, gt c p = some u ∧ u ≤ k
noncomputable def Runs (M : RM) : RS → Tx → Nat → RS → Prop
  | R, [], _, R' => R' = R
  | R, c :: r, K, R' => fitsS M R c = true ∧ (∃ u, leftS M R = some u ∧ u ≤ r.length + 1 + K) ∧ Runs M (takeS M R c) r K R'
theorem Runs.append {M : RM} : ∀ {a b : Tx} {R R1 R' : RS} {K : Nat}, Runs M R a (b.length + K) R1 → Runs M R1 b K R' → Runs M R (a ++ b) K R'
  | [], b, R, R1, R', K, h1, h2 => by
    have e : R1 = R := h1
    rw [← e]; exact h2
  | c :: a, b, R, R1, R', K, h1, h2 => by
    obtain ⟨f, ⟨u, hu, hl⟩, h3⟩ := h1
    refine ⟨f, ⟨u, hu, ?_⟩, Runs.append h3 h2⟩
    show u ≤ (a ++ b).length + 1 + K
    rw [List.length_append]
    omega
theorem Runs.one {M : RM} {R R' : RS} {c u K : Nat} (f : fitsS M R c = true) (hu : leftS M R = some u) (hl : u ≤ 1 + K) (e : R' = takeS M R c) : Runs M R [c] K R' := ⟨f, ⟨u, hu, by simpa using hl⟩, e⟩
theorem cheap_bound {M : RM} {R : RS} {h l : Tx} {s c : Nat} (hm : (l, s) ∈ M.starts) (hc : gt (innerOf M R) s = some c) (hp : l.take h.length = h) :
    ∃ v l', cheapest M R h = some (v, l') ∧ v ≤ c + (l.length - h.length) + 1 + (if colonEnd l = true ∧ (h ≠ l ∨ R.signs = 0) then 1 else 0) := by
  unfold cheapest
  refine cheap_le _ _ _ (.inr ⟨(l, s), hm, ?_⟩)
  show costBy h R.signs l (gt (innerOf M R) s) = _
  rw [hc]
  show (if l.take h.length = h then _ else _) = _
  rw [if_pos hp]
theorem left_cheap {M : RM} {R : RS} (hw : R.whole = false) (hh : R.head ≠ [] ∨ R.stk = []) : leftS M R = (cheapest M R R.head).map (·.1) := by
  unfold leftS
  rw [hw, if_neg (by simp)]
  split
  · rename_i e1 e2
    rcases hh with hh | hh
    · exact absurd e1 hh
    · rw [hh] at e2; cases e2
  · rfl
theorem fits_letter {M : RM} {R : RS} {c : Nat} (hw : R.whole = false) (hc : colonEnd R.head = false) (h : isLow c ∨ c = 58) (hs : (cheapest M R (R.head ++ [c])).isSome = true) : fitsS M R c = true := by
  have q : c ≠ 40 ∧ c ≠ 41 := by unfold isLow at h; omega
  unfold fitsS
  rw [hw, if_neg (by simp), hc, if_neg (by simp), if_neg q.1, if_neg q.2, hs]
  simpa using h
theorem fits_word {M : RM} {R : RS} {c : Nat} (hw : R.whole = false) (hc : colonEnd R.head = true) (h : isLow c ∨ isFig c) (hs : R.signs < 60) : fitsS M R c = true := by
  have q := word_ne h
  unfold fitsS
  rw [hw, if_neg (by simp), hc, if_pos rfl, if_neg q.1]
  simp [h, hs]
/-- reading the letters of a label, r behind h -/
theorem run_letters {M : RM} {stk : List (Nat × Cs)} {l : Tx} {s c K : Nat} (hm : (l, s) ∈ M.starts) (hc : gt (innerOf M ⟨stk, [], 0, false⟩) s = some c) :
    ∀ (r h : Tx), (∀ x ∈ h, isLow x) → (∀ x ∈ r, isLow x) → (∃ z, l = h ++ r ++ z) → c + (l.length - h.length) + 1 + (if colonEnd l = true then 1 else 0) ≤ r.length + K → (∃ u, leftS M ⟨stk, h, 0, false⟩ = some u ∧ u ≤ r.length + K) →
      Runs M ⟨stk, h, 0, false⟩ r K ⟨stk, h ++ r, 0, false⟩
  | [], h, _, _, _, _, _ => by
    show _ = _
    rw [List.append_nil]
  | x :: r, h, hh, hr, ⟨z, ez⟩, hb, hl => by
    have hx := hr x List.mem_cons_self
    have hcol : colonEnd h = false := by
      unfold colonEnd
      rw [decide_eq_false_iff_not]
      intro e
      exact (low_ne (hh _ (List.mem_of_getLast? e))).1 rfl
    have e1 : l = (h ++ [x]) ++ r ++ z := by rw [ez]; simp
    have hi : gt (innerOf M ⟨stk, h, 0, false⟩) s = some c := hc
    obtain ⟨v, l', h1, h2⟩ := cheap_bound (R := ⟨stk, h, 0, false⟩) (h := h ++ [x]) hm hi (by rw [e1, List.append_assoc]; exact pre_take rfl)
    have hlen : h.length + 1 ≤ l.length := by rw [e1]; simp <;> omega
    refine ⟨fits_letter rfl hcol (.inl hx) (by show (cheapest M _ (h ++ [x])).isSome = true; rw [h1] <;> rfl), ?_, ?_⟩
    · obtain ⟨u, hu, hu2⟩ := hl
      exact ⟨u, hu, by simp at hu2; omega⟩
    · rw [take_letter M (low_ne hx).2.1 (low_ne hx).2.2 hcol]
      have key : Runs M ⟨stk, h ++ [x], 0, false⟩ r K ⟨stk, (h ++ [x]) ++ r, 0, false⟩ := by
        refine run_letters hm hc r (h ++ [x]) ?_ (fun y hy => hr y (List.mem_cons_of_mem _ hy)) ⟨z, e1⟩ ?_ ?_
        · intro y hy
          rcases List.mem_append.mp hy with hy | hy
          · exact hh y hy
          · rw [List.mem_singleton.mp hy]; exact hx
        · simp at hb ⊢
          omega
        · refine ⟨v, ?_, ?_⟩
          · rw [left_cheap rfl (.inl (by simp))]
            show (cheapest M ⟨stk, h, 0, false⟩ (h ++ [x])).map (·.1) = some v
            rw [h1]; rfl
          · have e3 : (if colonEnd l = true ∧ (h ++ [x] ≠ l ∨ (⟨stk, h, 0, false⟩ : RS).signs = 0) then 1 else 0) ≤ (if colonEnd l = true then 1 else 0) := by
              by_cases q : colonEnd l = true
              · rw [if_pos q]; split <;> omega
              · rw [if_neg q, if_neg (by simp [q])]; omega
            rw [show (h ++ [x]).length = h.length + 1 by simp] at h2
            rw [show (x :: r).length = r.length + 1 from rfl] at hb
            omega
      rw [List.append_assoc] at key
      exact key
theorem run_word {M : RM} {stk : List (Nat × Cs)} {l : Tx} {s c K : Nat} (hm : (l, s) ∈ M.starts) (hc : gt (innerOf M ⟨stk, [], 0, false⟩) s = some c) (hcol : colonEnd l = true) (hne : l ≠ []) (hK : c ≤ K) :
    ∀ (w : Tx) (k : Nat), (∀ x ∈ w, isLow x ∨ isFig x) → k + w.length ≤ 60 → Runs M ⟨stk, l, k, false⟩ w (1 + K) ⟨stk, l, k + w.length, false⟩
  | [], k, _, _ => rfl
  | x :: w, k, hw, hl => by
    have hx := hw x List.mem_cons_self
    have hi : gt (innerOf M ⟨stk, l, k, false⟩) s = some c := hc
    obtain ⟨v, l', h1, h2⟩ := cheap_bound (R := ⟨stk, l, k, false⟩) (h := l) hm hi (by simp)
    simp at hl
    refine ⟨fits_word rfl hcol hx (by show k < 60; omega), ⟨v, ?_, ?_⟩, ?_⟩
    · rw [left_cheap rfl (.inl hne)]
      show (cheapest M ⟨stk, l, k, false⟩ l).map (·.1) = some v
      rw [h1]; rfl
    · have : (if colonEnd l = true ∧ (l ≠ l ∨ (⟨stk, l, k, false⟩ : RS).signs = 0) then 1 else 0) ≤ 1 := by split <;> omega
      omega
    · rw [take_word M (word_ne hx).1 (word_ne hx).2.1 hcol]
      have := run_word hm hc hcol hne hK w (k + 1) (fun y hy => hw y (List.mem_cons_of_mem _ hy)) (by omega)
      rw [show k + (x :: w).length = k + 1 + w.length by simp; omega]
      exact this
theorem run_open {M : RM} (hM : M.toMac.Ok) {stk : List (Nat × Cs)} {g w : Tx} {s c K : Nat} (hg : TagOk g) (hw : WordOk w) (hs : startOf M.starts (label g w) = some s) (hc : gt (innerOf M ⟨stk, [], 0, false⟩) s = some c) (hK : c ≤ K)
    (hl : ∃ u, leftS M ⟨stk, [], 0, false⟩ = some u ∧ u ≤ g.length + (wpart w).length + 1 + K) :
    Runs M ⟨stk, [], 0, false⟩ (g ++ wpart w ++ [40]) K ⟨(s, innerOf M ⟨stk, [], 0, false⟩) :: stk, [], 0, false⟩ := by
  have hm := startOf_mem hs
  rw [List.append_assoc]
  have hgl : label g w = g ++ (if w = [] then [] else [58]) := by unfold label; split <;> simp
  have hcl : colonEnd (label g w) = decide (w ≠ []) := by
    unfold label
    by_cases q : w = []
    · rw [if_pos q, tag_last hg]; simp [q]
    · rw [if_neg q, colon_last]; simp [q]
  have hll : (label g w).length = g.length + (if w = [] then 0 else 1) := by rw [hgl]; split <;> simp
  have hwl : (wpart w).length = if w = [] then 0 else 1 + w.length := by unfold wpart; split <;> simp; omega
  have hw1 : w ≠ [] → 1 ≤ w.length := fun q => by cases w with | nil => exact absurd rfl q | cons => simp
  refine Runs.append (R1 := ⟨stk, g, 0, false⟩) ?_ ?_
  · have := run_letters (K := (wpart w ++ [40]).length + K) hm hc g [] (fun _ h => by cases h) hg.2 ⟨if w = [] then [] else [58], by rw [hgl]; simp⟩ (by
        rw [hcl, hll]
        simp only [List.length_append, List.length_cons, List.length_nil, hwl]
        by_cases q : w = []
        · simp [q]; omega
        · have := hw1 q
          simp [q]; omega) (by
        obtain ⟨u, hu, hu2⟩ := hl
        refine ⟨u, hu, ?_⟩
        simp only [List.length_append, List.length_cons, List.length_nil]
        omega)
    rw [List.nil_append] at this
    exact this
  · have hgne : g ≠ [] := hg.1.1
    by_cases q : w = []
    · have e1 : wpart w = [] := by unfold wpart; rw [if_pos q]
      have e2 : label g w = g := by unfold label; rw [if_pos q]
      rw [e1, List.nil_append]
      rw [e2] at hm hs hcl
      have hcg : colonEnd g = false := tag_last hg
      obtain ⟨v, l', h1, h2⟩ := cheap_bound (R := ⟨stk, g, 0, false⟩) (h := g) hm (show gt (innerOf M ⟨stk, g, 0, false⟩) s = some c from hc) (by simp)
      rw [if_neg (by rw [hcg]; simp)] at h2
      refine Runs.one (u := v) ?_ ?_ (by omega) ?_
      · unfold fitsS
        rw [if_neg (by simp), if_neg (by rw [show (⟨stk, g, 0, false⟩ : RS).head = g from rfl, hcg]; simp), if_pos rfl]
        show (match startOf M.starts g with | none => false | some s => (gt (innerOf M ⟨stk, g, 0, false⟩) s).isSome) = true
        rw [hs]
        show (gt (innerOf M ⟨stk, [], 0, false⟩) s).isSome = true
        rw [hc]; rfl
      · rw [left_cheap rfl (.inl hgne)]
        show (cheapest M ⟨stk, g, 0, false⟩ g).map (·.1) = some v
        rw [h1]; rfl
      · rw [take_open]
        show _ = (⟨((startOf M.starts g).getD 0, _) :: stk, [], 0, false⟩ : RS)
        rw [hs]; rfl
    · have e1 : wpart w = [58] ++ w := by unfold wpart; rw [if_neg q]; rfl
      have e2 : label g w = g ++ [58] := by unfold label; rw [if_neg q]
      have hw1' := hw1 q
      rw [e2] at hm hs
      have hcg : colonEnd g = false := tag_last hg
      have hcl2 : colonEnd (g ++ [58]) = true := colon_last g
      have hll2 : (g ++ [58]).length = g.length + 1 := by simp
      rw [e1, List.append_assoc]
      refine Runs.append (R1 := ⟨stk, g ++ [58], 0, false⟩) ?_ (Runs.append (R1 := ⟨stk, g ++ [58], 0 + w.length, false⟩) ?_ ?_)
      · obtain ⟨v, l', h1, h2⟩ := cheap_bound (R := ⟨stk, g, 0, false⟩) (h := g) hm (show gt (innerOf M ⟨stk, g, 0, false⟩) s = some c from hc) (by simp)
        obtain ⟨v2, l2, h3, h4⟩ := cheap_bound (R := ⟨stk, g, 0, false⟩) (h := g ++ [58]) hm (show gt (innerOf M ⟨stk, g, 0, false⟩) s = some c from hc) List.take_length
        refine Runs.one (u := v) (fits_letter rfl hcg (.inr rfl) (by show (cheapest M ⟨stk, g, 0, false⟩ (g ++ [58])).isSome = true; rw [h3] <;> rfl)) ?_ ?_ ?_
        · rw [left_cheap rfl (.inl hgne)]
          show (cheapest M ⟨stk, g, 0, false⟩ g).map (·.1) = some v
          rw [h1]; rfl
        · have : (if colonEnd (g ++ [58]) = true ∧ (g ≠ g ++ [58] ∨ (⟨stk, g, 0, false⟩ : RS).signs = 0) then 1 else 0) ≤ 1 := by split <;> omega
          rw [hll2] at h2
          simp only [List.length_append, List.length_cons, List.length_nil]
          omega
        · rw [take_letter M (by decide) (by decide) hcg]
      · have := run_word (K := K) hm hc hcl2 (by simp) hK w 0 hw.2 (by have := hw.1; omega)
        rw [show ([40] : Tx).length + K = 1 + K by simp]
        exact this
      · have hi : gt (innerOf M ⟨stk, g ++ [58], 0 + w.length, false⟩) s = some c := hc
        obtain ⟨v, l', h1, h2⟩ := cheap_bound (R := ⟨stk, g ++ [58], 0 + w.length, false⟩) (h := g ++ [58]) hm hi List.take_length
        rw [if_neg (by
          rintro ⟨_, z | z⟩
          · exact z rfl
          · have : 0 + w.length = 0 := z
            omega)] at h2
        refine Runs.one (u := v) ?_ ?_ (by omega) ?_
        · unfold fitsS
          rw [if_neg (by simp), if_pos hcl2, if_pos rfl]
          show decide (0 < 0 + w.length) = true
          simp; omega
        · rw [left_cheap rfl (.inl (by simp))]
          show (cheapest M ⟨stk, g ++ [58], 0 + w.length, false⟩ (g ++ [58])).map (·.1) = some v
          rw [h1]; rfl
        · rw [take_open]
          show _ = (⟨((startOf M.starts (g ++ [58])).getD 0, _) :: stk, [], 0, false⟩ : RS)
          rw [hs]; rfl
theorem foldl_good : ∀ (g : List Nat) (c : Cs) (s : Nat), gt (g.foldl (fun c s => c.set s (some 0)) c) s = if s ∈ g ∧ s < c.length then some 0 else gt c s
  | [], c, s => by simp
  | a :: g, c, s => by
    rw [List.foldl_cons, foldl_good g, gt_set]
    simp only [List.length_set, List.mem_cons]
    by_cases h1 : s ∈ g
    · by_cases h2 : s < c.length
      · simp [h1, h2]
      · simp [h1, h2]
        intro e; omega
    · by_cases h3 : a = s
      · subst h3
        by_cases h2 : a < c.length
        · simp [h1, h2]
        · simp [h1, h2]
      · have h4 : ¬ s = a := fun q => h3 q.symm
        simp [h1, h3, h4]
theorem closed_nil (M : RM) (h : Tx) (k : Nat) (b : Bool) (s : Nat) : gt (closedOf M ⟨[], h, k, b⟩) s = if s ∈ M.good ∧ s < M.n then some 0 else none := by
  show gt (M.good.foldl (fun c s => c.set s (some 0)) (List.replicate M.n none)) s = _
  rw [foldl_good]
  have e : gt (List.replicate M.n none) s = none := by
    unfold gt
    rw [List.getD_eq_getElem?_getD, List.getElem?_replicate]
    split <;> rfl
  rw [e, List.length_replicate]
theorem closed_cons (M : RM) (p : Nat) (c : Cs) (r : List (Nat × Cs)) (h : Tx) (k : Nat) (b : Bool) {s : Nat} (hs : s < M.n) : gt (closedOf M ⟨(p, c) :: r, h, k, b⟩) s = gt c (sp M.steps p s) := by
  show gt ((List.range M.n).map fun s => gt c (sp M.steps p s)) s = _
  conv => lhs; unfold gt
  rw [List.getD_eq_getElem?_getD, List.getElem?_map, List.getElem?_range hs]
  rfl
theorem up_kids {M : RM} (hM : M.toMac.Ok) (hp : PricesOk M.toMac M.prices) {c : Cs} (sh : ShutC M.steps M.prices M.n c) : ∀ (ks : List T) (p k : Nat), Oks ks → p < M.n → sts M.toMac p ks ≠ 0 → Up c (sts M.toMac p ks) k → Up c p ((texts ks).length + k)
  | [], p, k, _, _, _, h => by
    obtain ⟨u, h1, h2⟩ := h
    exact ⟨u, h1, Nat.le_trans h2 (Nat.le_add_left _ _)⟩
  | t :: r, p, k, ok, hlt, hz, h => by
    obtain ⟨z1, z2, z3⟩ := sts_ne hM hz
    obtain ⟨b, hb, hb2⟩ := up_kids hM hp sh r (sp M.steps p (t.st M.toMac)) k ok.2 (sp_lt hM _ _) hz h
    obtain ⟨a, ha, ha2⟩ := price_le hM hp t ok.1 z3
    obtain ⟨u, hu, hu2⟩ := sh p (t.st M.toMac) a b (by omega) hlt (by omega) (st_lt hM t) ha hb
    refine ⟨u, hu, ?_⟩
    show u ≤ (t.text ++ texts r).length + k
    rw [List.length_append]
    omega
/-- a place where a tree may begin -/
structure At (M : RM) (stk : List (Nat × Cs)) : Prop where
  ok : ∀ q ∈ stk, q.1 < M.n ∧ q.2.length = M.n ∧ ShutC M.steps M.prices M.n q.2
mutual
theorem run_tree {M : RM} (hM : M.toMac.Ok) (hp : PricesOk M.toMac M.prices) : ∀ (t : T) (stk : List (Nat × Cs)) (K : Nat), t.Ok → At M stk → t.st M.toMac ≠ 0 → (∀ p c r, stk = (p, c) :: r → p ≠ 0) → Up (closedOf M ⟨stk, [], 0, false⟩) (t.st M.toMac) K →
    Runs M ⟨stk, [], 0, false⟩ t.text K (closeS M ⟨stk, [], 0, false⟩ (t.st M.toMac))
  | .node g w ks, stk, K, ok, at_, hz, hnz, hup => by
    have okT := ok
    obtain ⟨og, ow, ok2⟩ := ok
    have hz' : sts M.toMac ((startOf M.starts (label g w)).getD 0) ks ≠ 0 := hz
    have hs := sts_ne0 hM hz'
    cases e : startOf M.starts (label g w) with
    | none => rw [e] at hs; exact absurd rfl hs
    | some s =>
      have est : (T.node g w ks).st M.toMac = sts M.toMac s ks := by
        show sts M.toMac ((startOf M.starts (label g w)).getD 0) ks = _
        rw [e]; rfl
      rw [e] at hz' hs
      have hm := startOf_mem e
      have hslt : s < M.n := hM.st_lt _ hm
      have hup0 := hup
      rw [est] at hup
      obtain ⟨u0, hu0, hu0'⟩ := hup
      obtain ⟨ui, hui, hui'⟩ := closing_le (S := M.steps) (pr := M.prices) hu0
      have upi : Up (innerOf M ⟨stk, [], 0, false⟩) (sts M.toMac s ks) (K + 1) := ⟨ui, hui, by omega⟩
      have shI := inner_shut M ⟨stk, [], 0, false⟩
      obtain ⟨c, hc, hc'⟩ := up_kids hM hp shI ks s (K + 1) ok2 hslt hz' upi
      have et : (T.node g w ks).text = (g ++ wpart w ++ [40]) ++ (texts ks ++ [41]) := by
        show g ++ wpart w ++ [40] ++ texts ks ++ [41] = _
        simp
      rw [et]
      refine Runs.append (R1 := ⟨(s, innerOf M ⟨stk, [], 0, false⟩) :: stk, [], 0, false⟩) ?_ (Runs.append (R1 := ⟨(sts M.toMac s ks, innerOf M ⟨stk, [], 0, false⟩) :: stk, [], 0, false⟩) ?_ ?_)
      · refine run_open hM og ow e hc (by simp only [List.length_append, List.length_cons, List.length_nil]; omega) ?_
        cases stk with
        | nil =>
          obtain ⟨v, l', h1, h2⟩ := cheap_bound (R := ⟨[], [], 0, false⟩) (h := []) hm hc (by simp)
          refine ⟨v, ?_, ?_⟩
          · rw [left_cheap rfl (.inr rfl)]
            show (cheapest M ⟨[], [], 0, false⟩ []).map (·.1) = some v
            rw [h1]; rfl
          · have hcl : colonEnd (label g w) = decide (w ≠ []) := by
              unfold label
              by_cases q : w = []
              · rw [if_pos q, tag_last og]; simp [q]
              · rw [if_neg q, colon_last]; simp [q]
            have hll : (label g w).length = g.length + (if w = [] then 0 else 1) := by unfold label; split <;> simp
            have hwl : (wpart w).length = if w = [] then 0 else 1 + w.length := by unfold wpart; split <;> simp; omega
            rw [hcl, hll] at h2
            simp only [List.length_append, List.length_cons, List.length_nil, hwl]
            by_cases q : w = []
            · simp [q] at h2 ⊢; omega
            · have : 1 ≤ w.length := by cases w with | nil => exact absurd rfl q | cons => simp
              rw [if_neg q] at h2 ⊢
              have h3 : (if decide (w ≠ []) = true ∧ ([] ≠ label g w ∨ (⟨[], [], 0, false⟩ : RS).signs = 0) then 1 else 0) ≤ 1 := by split <;> omega
              have h4 : ([] : Tx).length = 0 := rfl
              omega
        | cons q r =>
          obtain ⟨p, cp⟩ := q
          obtain ⟨o1, o2, o3⟩ := at_.ok (p, cp) List.mem_cons_self
          have hst := st_lt hM (T.node g w ks)
          obtain ⟨v, hv, hv2⟩ := hup0
          rw [closed_cons M p cp r [] 0 false hst] at hv
          obtain ⟨a, ha, ha2⟩ := price_le hM hp (.node g w ks) okT hz
          obtain ⟨x, hx, hx2⟩ := o3 p _ a v (by have := hnz p cp r rfl; omega) o1 (by omega) hst ha hv
          refine ⟨x, hx, ?_⟩
          have el : (T.node g w ks).text.length = g.length + (wpart w).length + 1 + (texts ks ++ [41]).length := by rw [et]; simp; omega
          omega
      · have := run_kids hM hp ks s (innerOf M ⟨stk, [], 0, false⟩) stk K ok2 ⟨fun q hq => by
          rcases List.mem_cons.mp hq with rfl | hq
          · exact ⟨hslt, inner_len M _, shI⟩
          · exact at_.ok q hq⟩ hz' ⟨ui, hui, by omega⟩
        rw [show ([41] : Tx).length + K = 1 + K by simp]
        exact this
      · have etk : takeS M ⟨(sts M.toMac s ks, innerOf M ⟨stk, [], 0, false⟩) :: stk, [], 0, false⟩ 41 = closeS M ⟨stk, [], 0, false⟩ (sts M.toMac s ks) := take_close
        rw [est]
        refine Runs.one (u := ui) ?_ hui (by omega) etk.symm
        unfold fitsS
        rw [if_neg (by simp), if_neg (by simp [colonEnd]), if_neg (by decide), if_pos rfl]
        simp only [decide_true, Bool.true_and]
        cases stk with
        | nil =>
          rw [closed_nil] at hu0
          show decide (sts M.toMac s ks ∈ M.good) = true
          rw [decide_eq_true_eq]
          split at hu0
          · rename_i q; exact q.1
          · cases hu0
        | cons q r =>
          obtain ⟨p, cp⟩ := q
          rw [closed_cons M p cp r [] 0 false (sts_lt hM ks s hslt)] at hu0
          show (gt cp (sp M.steps p (sts M.toMac s ks))).isSome = true
          rw [hu0]; rfl
theorem run_kids {M : RM} (hM : M.toMac.Ok) (hp : PricesOk M.toMac M.prices) : ∀ (ks : List T) (p : Nat) (c : Cs) (r : List (Nat × Cs)) (K : Nat), Oks ks → At M ((p, c) :: r) → sts M.toMac p ks ≠ 0 → Up c (sts M.toMac p ks) (1 + K) →
    Runs M ⟨(p, c) :: r, [], 0, false⟩ (texts ks) (1 + K) ⟨(sts M.toMac p ks, c) :: r, [], 0, false⟩
  | [], p, c, r, K, _, _, _, _ => rfl
  | t :: ks, p, c, r, K, ok, at_, hz, hup => by
    obtain ⟨z1, z2, z3⟩ := sts_ne hM hz
    obtain ⟨o1, o2, o3⟩ := at_.ok (p, c) List.mem_cons_self
    obtain ⟨b, hb, hb2⟩ := up_kids hM hp o3 ks (sp M.steps p (t.st M.toMac)) (1 + K) ok.2 (sp_lt hM _ _) hz hup
    refine Runs.append (b := texts ks) (R1 := ⟨(sp M.steps p (t.st M.toMac), c) :: r, [], 0, false⟩) ?_ ?_
    · refine run_tree hM hp t ((p, c) :: r) _ ok.1 at_ z3 (fun _ _ _ e => by cases e; exact z2) ⟨b, ?_, hb2⟩
      rw [closed_cons M p c r [] 0 false (st_lt hM t)]
      exact hb
    · exact run_kids hM hp ks _ c r K ok.2 ⟨fun q hq => by
        rcases List.mem_cons.mp hq with rfl | hq
        · exact ⟨sp_lt hM _ _, o2, o3⟩
        · exact at_.ok q (List.mem_cons_of_mem _ hq)⟩ hz hup
end
/-- (A) the text of an admitted tree passes, left bears, and the reader is at its end -/
theorem good_runs {M : RM} (hM : M.toMac.Ok) (hp : PricesOk M.toMac M.prices) {t : T} (ok : t.Ok) (hg : t.st M.toMac ∈ M.good) : Runs M R0 t.text 0 ⟨[], [], 0, true⟩ := by
  have h1 := hM.good_pos _ hg
  exact run_tree hM hp t [] 0 ok ⟨fun _ h => by cases h⟩ (by omega) (fun _ _ _ h => by cases h) ⟨0, by rw [closed_nil, if_pos ⟨hg, hM.good_lt _ hg⟩], Nat.le_refl 0⟩
/-- (B) where all signs of a tree's text fit, its state is good -/
theorem go_good {M : RM} {t : T} (ok : t.Ok) {R' : RS} (h : goS M R0 t.text = some R') : t.st M.toMac ∈ M.good := (go_tree t R0 R' ok rfl rfl h).2 rfl

/-! ## 8. How far a line passes -/
noncomputable def passS (M : RM) : RS → Tx → Nat
  | _, [] => 0
  | R, c :: r => if fitsS M R c = true then passS M (takeS M R c) r + 1 else 0
theorem passS_le {M : RM} : ∀ (l : Tx) (R : RS), passS M R l ≤ l.length
  | [], R => Nat.le_refl 0
  | c :: r, R => by
    unfold passS
    split
    · have := passS_le (M := M) r (takeS M R c)
      simp; exact this
    · exact Nat.zero_le _
theorem pass_go {M : RM} : ∀ (l : Tx) (R : RS), passS M R l = l.length → ∃ R', goS M R l = some R'
  | [], R, _ => ⟨R, rfl⟩
  | c :: r, R, h => by
    unfold passS at h
    split at h
    · rename_i f
      simp at h
      obtain ⟨R', e⟩ := pass_go r _ h
      exact ⟨R', by unfold goS; rw [if_pos f]; exact e⟩
    · simp at h
theorem runs_pass {M : RM} : ∀ (l : Tx) (R R' : RS) (K : Nat), Runs M R l K R' → passS M R l = l.length
  | [], R, R', K, _ => rfl
  | c :: r, R, R', K, h => by
    obtain ⟨f, _, h2⟩ := h
    unfold passS
    rw [if_pos f, runs_pass r _ R' K h2]
    rfl
/-- the beginning that two texts share -/
def same : Tx → Tx → Nat
  | a :: r, b :: s => if a = b then same r s + 1 else 0
  | _, _ => 0
theorem pass_same {M : RM} : ∀ (l m : Tx) (R : RS), passS M R m = m.length → same l m ≤ passS M R l
  | [], m, R, _ => by cases m <;> exact Nat.zero_le _
  | a :: r, [], R, _ => Nat.zero_le _
  | a :: r, b :: s, R, h => by
    unfold passS at h
    split at h
    · rename_i f
      simp at h
      unfold same
      split
      · rename_i e
        subst e
        unfold passS
        rw [if_pos f]
        exact Nat.succ_le_succ (pass_same r s _ h)
      · exact Nat.zero_le _
    · simp at h

/-! ## 9. Sizes -/
mutual
def T.nodes : T → Nat
  | .node _ _ ks => 1 + nodess ks
def nodess : List T → Nat
  | [] => 0
  | t :: r => t.nodes + nodess r
end
mutual
theorem text_len : ∀ t : T, t.Ok → t.text.length ≤ 71 * t.nodes
  | .node g w ks, ok => by
    obtain ⟨og, ow, ok2⟩ := ok
    have h := texts_len ks ok2
    have h1 : (wpart w).length ≤ 61 := by
      unfold wpart
      split
      · exact Nat.zero_le _
      · have := ow.1; simp; omega
    have h2 := og.1.2
    show (g ++ wpart w ++ [40] ++ texts ks ++ [41]).length ≤ 71 * (1 + nodess ks)
    simp only [List.length_append, List.length_cons, List.length_nil]
    omega
theorem texts_len : ∀ ks : List T, Oks ks → (texts ks).length ≤ 71 * nodess ks
  | [], _ => Nat.le_refl 0
  | t :: r, ok => by
    have h1 := text_len t ok.1
    have h2 := texts_len r ok.2
    show (t.text ++ texts r).length ≤ 71 * (t.nodes + nodess r)
    rw [List.length_append]
    omega
end
theorem lab_len {l : Tx} (h : LabOk l) : l.length ≤ 9 := by
  obtain ⟨g, hg, rfl | rfl⟩ := h
  · have := hg.1.2; omega
  · have := hg.1.2; simp; omega
theorem lab_ne {l : Tx} (h : LabOk l) : l ≠ [] := by
  obtain ⟨g, hg, rfl | rfl⟩ := h
  · exact hg.1.1
  · simp
open PySem PySem.Spec PyProof.Rows L2
/-! ## 9. The text by places -/
def top (i : Nat) : Stmt := PySem.Challenge.pw_warden_k39_admitted_texts_pass.main.body.getD i (.Pass ⟨0, 0, 0, 0⟩)
abbrev sPos : Stmt := top 4
abbrev sStarted : Stmt := top 5
abbrev sFall : Stmt := top 6
abbrev sPriced : Stmt := top 7
abbrev sPof : Stmt := top 8
abbrev sClosing : Stmt := top 13
abbrev sInit : Stmt := inClass (top 14) 0
abbrev sInner : Stmt := inClass (top 14) 1
abbrev sCheap : Stmt := inClass (top 14) 2
abbrev sCloses : Stmt := inClass (top 14) 3
abbrev sFits : Stmt := inClass (top 14) 4
abbrev sTake : Stmt := inClass (top 14) 5
abbrev sLeft : Stmt := inClass (top 14) 6
abbrev sHint : Stmt := inClass (top 14) 7
abbrev sPile : Stmt := inClass (top 14) 8
abbrev sDraw : Stmt := top 16
abbrev sLabel : Stmt := top 17
abbrev sLabels : Stmt := top 18
abbrev sMachine : Stmt := top 19
abbrev sWord : Stmt := top 20
abbrev sTree : Stmt := top 21
abbrev sState : Stmt := top 22
abbrev sText : Stmt := top 23
abbrev sSign : Stmt := top 24
abbrev sRefused : Stmt := top 25
abbrev sStays : Stmt := top 26
abbrev sPasses : Stmt := top 27
abbrev sSame : Stmt := top 28
abbrev sAtEnd : Stmt := top 29
abbrev sBears : Stmt := top 30
abbrev sLaw : Stmt := top 31

/-! ## 10. Texts -/
def S (l : Tx) : Str := ⟨l.toArray⟩
theorem S_cps (l : Tx) : (S l).cps.toList = l := rfl
theorem S_len (l : Tx) : (S l).length = l.length := by simp [S, Str.length]
theorem S_inj {a b : Tx} (h : S a = S b) : a = b := by
  have e := congrArg (fun z : Str => z.cps.toList) h
  simpa [S] using e
theorem S_eq (a b : Tx) : decide (V.str (S a) = V.str (S b)) = decide (a = b) := by
  by_cases h : a = b
  · subst h; simp
  · have h2 : ¬ V.str (S a) = V.str (S b) := fun q => h (S_inj (V.str.inj q))
    rw [decide_eq_false h, decide_eq_false h2]
theorem S_app (a b : Tx) : S a ++ S b = S (a ++ b) := by
  show Str.append (S a) (S b) = _
  unfold Str.append S
  simp
theorem S_of (z : Str) : z = S z.cps.toList := by
  obtain ⟨c⟩ := z
  rfl
theorem S_cut (l : Tx) (lo hi : Option Int) : cutS (S l) lo hi = S ((l.drop (HT.sIx l.length 0 lo)).take (HT.sIx l.length l.length hi - HT.sIx l.length 0 lo)) := by
  unfold cutS
  rw [S_cps, S_len]
  rfl
theorem sl_lit1 : ("(" : Str) = S [40] := by decide +kernel
theorem sl_lit2 : (")" : Str) = S [41] := by decide +kernel
theorem sl_lit3 : (":" : Str) = S [58] := by decide +kernel
theorem sl_lit4 : ("" : Str) = S [] := by decide +kernel
theorem sl_lit5 : ("a" : Str) = S [97] := by decide +kernel
def lowers : Tx := (List.range 26).map (· + 97)
def wordSigns : Tx := lowers ++ (List.range 10).map (· + 48)
theorem sl_low : ("abcdefghijklmnopqrstuvwxyz" : Str) = S lowers := by decide +kernel
theorem sl_word : ("abcdefghijklmnopqrstuvwxyz0123456789" : Str) = S wordSigns := by decide +kernel
theorem mem_low (c : Nat) : c ∈ lowers ↔ isLow c := by
  unfold lowers isLow
  rw [List.mem_map]
  constructor
  · rintro ⟨a, h, rfl⟩
    have := List.mem_range.mp h
    omega
  · intro h
    exact ⟨c - 97, List.mem_range.mpr (by omega), by omega⟩
theorem mem_word (c : Nat) : c ∈ wordSigns ↔ (isLow c ∨ isFig c) := by
  unfold wordSigns
  rw [List.mem_append, mem_low]
  unfold isFig
  rw [List.mem_map]
  constructor
  · rintro (h | ⟨a, h, rfl⟩)
    · exact .inl h
    · have := List.mem_range.mp h
      right; omega
  · rintro (h | h)
    · exact .inl h
    · exact .inr ⟨c - 48, List.mem_range.mpr (by omega), by omega⟩

/-! ## 11. Rules of my own -/
section
variable {X : Cx}
/-- a sign times a number -/
def rMulS : R2 := fun x y H Q => ∃ (c : Nat) (n : Int), x = .str (S [c]) ∧ y = .int n ∧ -(2 ^ 63) ≤ n ∧ n ≤ 1000 ∧ Q (.str (S (List.replicate n.toNat c))) H
theorem op_mul_str : OpR X (binaryOp .Mult) rMulS := by
  intro pins s σ H x y v u Q I rx ry h
  obtain ⟨c, n, rfl, rfl, h1, h2, q⟩ := h
  obtain ⟨t, rfl⟩ := rx
  obtain ⟨t', rfl⟩ := ry
  refine SB.mul (mulOk_of 1 1000 (by rw [S_len]; exact Nat.le_refl 1) h2 h1 (by decide) (by decide)) fun t2 k => ?_
  refine ⟨.str (S (List.replicate n.toNat c)), H, I.tok _, ⟨t2, ?_⟩, q⟩
  have e := mul_one_list c n
  have e2 := S_of (Txt.mul ⟨#[c]⟩ n)
  rw [e] at e2
  show Value.str (Txt.mul ⟨#[c]⟩ n) t2 = _
  rw [e2]
end

/-! ## 12. A def by its name -/
structure Cal (P : Program) (w : World) (K : PySem.W.Frag) (mg : Str → Option Value) (base : Heap) (CX : CXT) (x : Str) (k : Nat) (ps : List Str) (sp : Sp) : Prop where
  ex : ∃ (f : Addr) (fd : FuncData), FnOk P w K mg base CX k f fd ps sp ∧ mg x = some (.ref f) ∧ PySem.W.keepIn K (.ref f) = true ∧ Binds K fd ps []
theorem pcal {X : Cx} {k : Nat} {x : Str} {ps : List Str} {sp : Sp} {e : Expr} {es : List Expr} {t : TA} {p pos : Pos} (c : Cal X.prog X.w X.K X.mg X.base CX0 x k ps sp) (hr : Room k X.A) (ha : PA X (e :: es) t) (hg : Gl X x := by rfl)
    (hdb : (x == ("__debug__" : Str)) = false := by decide) (he : starEach (e :: es) X.env = (false, eval e X.env) :: starEach es X.env := by rfl) (hpl : (backTo pos (starEach es X.env)).any (·.1) = false := by rfl) :
    PE X (.Call (.Name x p) (e :: es) [] pos) (tCall sp [] E0 t) := by
  obtain ⟨f, fd, F, hm, hk, hb⟩ := c.ex
  exact pe_call F hr hg hm hk hb .nil pass0 ha hdb he hpl
/-- a method by its name -/
structure CalM (P : Program) (w : World) (K : PySem.W.Frag) (mg : Str → Option Value) (base : Heap) (CX : CXT) (C : Addr) (m : Str) (k : Nat) (ps : List Str) (sp : Sp) : Prop where
  ex : ∃ (f : Addr) (fd : FuncData), FnOk P w K mg base CX k f fd ps sp ∧ Meth K C m f ∧ Binds K fd ps []
  cl : Cls K C
section
variable {X : Cx} {CX : CXT} {C : Addr} {m : Str} {k : Nat} {ps : List Str} {sp : Sp} {E : XK} {o e : Expr} {es : List Expr} {ta : TE} {t : TA} {apos pos : Pos} {pl : Sem Bool}
theorem pmeth (c : CalM X.prog X.w X.K X.mg X.base CX C m k ps sp) (hr : Room k X.A) (hx : Passes CX X E) (he : PE X o ta) (ha : PA X (e :: es) t)
    (hst : starEach (e :: es) X.env = (false, eval e X.env) :: starEach es X.env := by rfl) (hpl : (backTo pos (starEach es X.env)).any (·.1) = false := by rfl)
    (ht : eval (.Call (.Attribute o m apos) (e :: es) [] pos) X.env = (do
      let ov ← eval o X.env
      standAt apos.atName
      let (f, first) ← holding [ov] (getMethod ov m pl)
      callWith pos f first (backTo pos (starEach (e :: es) X.env)) (backToKw pos (keywordEach [] X.env))) := by rfl) :
    PE X (.Call (.Attribute o m apos) (e :: es) [] pos) (tMeth C m sp [] E ta t) := by
  obtain ⟨f, fd, F, hm, hb⟩ := c.ex
  exact pe_meth he c.cl hm F hr hb .nil hx ha hst hpl ht
theorem pmeth0 (c : CalM X.prog X.w X.K X.mg X.base CX C m k ps sp) (hr : Room k X.A) (hx : Passes CX X E) (he : PE X o ta)
    (ht : eval (.Call (.Attribute o m apos) [] [] pos) X.env = (do
      let ov ← eval o X.env
      standAt apos.atName
      let (f, first) ← holding [ov] (getMethod ov m pl)
      callWith pos f first (backTo pos (starEach [] X.env)) (backToKw pos (keywordEach [] X.env))) := by rfl) :
    PE X (.Call (.Attribute o m apos) [] [] pos) (tMeth C m sp [] E ta tNil) := by
  obtain ⟨f, fd, F, hm, hb⟩ := c.ex
  exact pe_meth0 he c.cl hm F hr hb .nil hx ht
/-- o.m(e, ..) where what is raised is wished for at the caller's slots -/
def tMethX (C : Addr) (m : Str) (sp : Sp) (E : L2.St → XK) (ta : TE) (t : TA) : TE := fun σ H Q => ta σ H fun x H1 => ∃ a dx fs, x = .ref a ∧ H1 a = some (.ins C dx fs) ∧ fs.lookup m = none ∧
  t σ H1 fun vs H2 => sp (x :: vs) H2 Q (E σ)
theorem pmethX {E : L2.St → XK} (c : CalM X.prog X.w X.K X.mg X.base CX C m k ps sp) (hr : Room k X.A) (hx : ∀ σ, PassesAt CX X σ (E σ)) (he : PE X o ta) (ha : PA X (e :: es) t)
    (hst : starEach (e :: es) X.env = (false, eval e X.env) :: starEach es X.env := by rfl) (hpl : (backTo pos (starEach es X.env)).any (·.1) = false := by rfl)
    (ht : eval (.Call (.Attribute o m apos) (e :: es) [] pos) X.env = (do
      let ov ← eval o X.env
      standAt apos.atName
      let (f, first) ← holding [ov] (getMethod ov m pl)
      callWith pos f first (backTo pos (starEach (e :: es) X.env)) (backToKw pos (keywordEach [] X.env))) := by rfl) :
    PE X (.Call (.Attribute o m apos) (e :: es) [] pos) (tMethX C m sp E ta t) := by
  obtain ⟨f, fd, F, hm, hb⟩ := c.ex
  refine ⟨fun pins s σ H Q I h => ?_⟩
  refine PySem.W.methodCall_KW (pl := pl) (thn (he.run pins s σ H _ I h) fun u s1 ⟨x, H1, I1, rx, a, dx, fs, ex, ea, l, q⟩ => ?_) ht
  subst ex
  obtain rfl : u = Value.ref a := rx
  refine getmeth_ok I1 ea c.cl hm l ?_
  refine PySem.W.callWith_K (first := [.ref a]) (h₀ := X.base) I.ok.mod.kin hm.kp (thn (ha.run pos pins s1 σ H1 _ I1 q) fun us s2 ⟨vs, H2, I2, r, q2⟩ => ⟨I2.kIn, ?_⟩) hst hpl
  exact run_fnS (us := .ref a :: us) (vs := .ref a :: vs) F hr hb (hx σ) I2 (.cons rfl r) q2
end

/-! ## 13. The reading, step by step: rules that are taken by themselves -/
section
variable {K : PySem.W.Frag} {σ : L2.St} {H : Hp} {D : Ends}
theorem i_seq {t u : TS} (h : t { D with nx := u D } σ H) : tSeq t u D σ H := h
theorem i_next (h : D.nx σ H) : tNext D σ H := h
theorem i_asg {te : TE} {g : TG} (h : te σ H fun x H1 => g x σ H1 D.nx) : tAsg te g D σ H := h
theorem i_gname {i : Nat} {v : V} {Q : L2.St → Hp → Prop} (h : Q (σ.set i (some v)) H) : gName i v σ H Q := h
theorem i_var {i : Nat} {v : V} {Q : VK} (e : σ[i]? = some (some v)) (h : Q v H) : tVar i σ H Q := ⟨v, e, h⟩
theorem i_c {v : V} {Q : VK} (h : Q v H) : tC v σ H Q := h
theorem i_op {r : R2} {ta tb : TE} {Q : VK} (h : ta σ H fun x H1 => tb σ H1 fun y H2 => r x y H2 Q) : tOp r ta tb σ H Q := h
theorem i_un {r : V → Hp → VK → Prop} {ta : TE} {Q : VK} (h : ta σ H fun x H1 => r x H1 Q) : tUn r ta σ H Q := h
theorem i_neg {i : Int} {Q : VK} (h : Q (.int (-i)) H) : rU (fun i => .int (-i)) (.int i) H Q := ⟨i, rfl, h⟩
theorem i_ret {te : TE} (h : te σ H D.rt) : tRet te D σ H := h
theorem i_ifs {c : TT} {t u : TS} (h : c σ H fun b H1 => if b = true then t D σ H1 else u D σ H1) : tIfS c t u D σ H := h
theorem i_test {t : TE} {Q : Bool → Hp → Prop} (h : t σ H fun x H' => ∃ k, x = .bl k ∧ Q k H') : tTest t σ H Q := h
theorem i_tb {t : TE} {Q : Bool → Hp → Prop} (h : t σ H fun x H' => ∃ k, x = .bl k ∧ Q k H') : tB t σ H Q := h
theorem i_k {b : Bool} {Q : Bool → Prop} (h : Q b) : ∃ k, V.bl b = V.bl k ∧ Q k := ⟨b, rfl, h⟩
theorem i_not {t : TT} {Q : Bool → Hp → Prop} (h : t σ H fun c H1 => Q (!c) H1) : tNot t σ H Q := h
theorem i_notV {ta : TE} {Q : VK} (h : ta σ H fun x H1 => ∃ c, x = .bl c ∧ Q (.bl (!c)) H1) : tNotV ta σ H Q := h
theorem i_and {t u : TT} {Q : Bool → Hp → Prop} (h : t σ H fun c H1 => if c = true then u σ H1 Q else Q false H1) : tAnd t u σ H Q := h
theorem i_or {t u : TT} {Q : Bool → Hp → Prop} (h : t σ H fun c H1 => if c = true then Q true H1 else u σ H1 Q) : tOr t u σ H Q := h
theorem i_andV {ta tb : TE} {Q : VK} (h : ta σ H fun x H1 => ∃ c, x = .bl c ∧ if c = true then tb σ H1 Q else Q (.bl false) H1) : tAndV ta tb σ H Q := h
theorem i_orV {ta tb : TE} {Q : VK} (h : ta σ H fun x H1 => ∃ c, x = .bl c ∧ if c = true then Q (.bl true) H1 else tb σ H1 Q) : tOrV ta tb σ H Q := h
theorem i_drop {te : TE} (h : te σ H fun _ H1 => D.nx σ H1) : tDrop te D σ H := h
theorem i_nil {Q : List V → Hp → Prop} (h : Q [] H) : tNil σ H Q := h
theorem i_cons {ta : TE} {tr : TA} {Q : List V → Hp → Prop} (h : ta σ H fun x H1 => tr σ H1 fun xs H2 => Q (x :: xs) H2) : tCons ta tr σ H Q := h
theorem i_cb {r : List V → Hp → VK → Prop} {t : TA} {Q : VK} (h : t σ H fun vs H1 => r vs H1 Q) : tCB r t σ H Q := h
theorem i_call {sp : Sp} {E : XK} {t : TA} {Q : VK} (h : t σ H fun vs H1 => sp (vs ++ []) H1 Q E) : tCall sp [] E t σ H Q := h
theorem i_I0 {g : Int → Int → V} {i j : Int} {Q : VK} (h : Q (g i j) H) : rI0 g (.int i) (.int j) H Q := ⟨i, j, rfl, rfl, h⟩
theorem i_I {C : Int → Int → Prop} {g : Int → Int → V} {i j : Int} {Q : VK} (c : C i j) (h : Q (g i j) H) : rI C g (.int i) (.int j) H Q := ⟨i, j, rfl, rfl, c, h⟩
theorem i_eq {x y : V} {Q : VK} (e : scal x y = true) (h : Q (.bl (decide (x = y))) H) : rEq x y H Q := ⟨e, h⟩
theorem i_ne {x y : V} {Q : VK} (e : scal x y = true) (h : Q (.bl (!decide (x = y))) H) : rNe x y H Q := ⟨e, h⟩
theorem i_isN {x : V} {Q : VK} (h : Q (.bl (decide (x = .non))) H) : (fun (x y : V) (H : Hp) (Q : VK) => y = .non ∧ Q (.bl (decide (x = .non))) H) x .non H Q := ⟨rfl, h⟩
theorem i_tup {t : TA} {Q : VK} (h : t σ H fun xs H1 => xs.length ≤ sizeLine ∧ ∀ p, H1 p = none → Q (.ref p) (upd H1 p (.tup xs))) : tTup t σ H Q := h
theorem i_lst {t : TA} {Q : VK} (h : t σ H fun xs H1 => xs.length ≤ sizeLine ∧ ∀ p, H1 p = none → Q (.ref p) (upd H1 p (.lst xs))) : tLst t σ H Q := h
theorem i_sl {r : V → Option Int → Option Int → Hp → VK → Prop} {te : TE} {tl th : TO} {Q : VK} (h : te σ H fun x H1 => tl σ H1 fun l H2 => th σ H2 fun u H3 => r x l u H3 Q) : tSl r te tl th σ H Q := h
theorem i_nopart {Q : Option Int → Hp → Prop} (h : Q none H) : tNoPart σ H Q := h
theorem i_part {t : TE} {Q : Option Int → Hp → Prop} (h : t σ H fun x H1 => ∃ i, x = .int i ∧ Q (some i) H1) : tPart t σ H Q := h
theorem i_pint {i : Int} {Q : Int → Prop} (h : Q i) : ∃ j, V.int i = V.int j ∧ Q j := ⟨i, rfl, h⟩
theorem i_fld {ta : TE} {f : Str} {Q : VK} (h : ta σ H fun x H1 => ∃ a C dx fs v, x = .ref a ∧ H1 a = some (.ins C dx fs) ∧ Cls K C ∧ NoAttr K C f ∧ fs.lookup f = some v ∧ Q v H1) : tFld K ta f σ H Q := h
theorem i_fldv {a C dx : Addr} {fs : List (Str × V)} {f : Str} {v : V} {Q : V → Prop} (e : H a = some (.ins C dx fs)) (c : Cls K C) (n : NoAttr K C f) (l : fs.lookup f = some v) (h : Q v) :
    ∃ a' C' dx' fs' v', V.ref a = .ref a' ∧ H a' = some (.ins C' dx' fs') ∧ Cls K C' ∧ NoAttr K C' f ∧ fs'.lookup f = some v' ∧ Q v' := ⟨a, C, dx, fs, v, rfl, e, c, n, l, h⟩
theorem i_ixl {p : Addr} {xs : List V} {i : Int} {v : V} {Q : VK} (hp : SqL K H p xs) (ha : atI xs i = some v) (h : Q v H) : rIxL K (.ref p) (.int i) H Q := ⟨p, xs, i, v, rfl, rfl, hp, ha, h⟩
theorem i_ixt {p : Addr} {xs : List V} {i : Int} {v : V} {Q : VK} (hp : SqT K H p xs) (ha : atI xs i = some v) (h : Q v H) : rIxT K (.ref p) (.int i) H Q := ⟨p, xs, i, v, rfl, rfl, hp, ha, h⟩
theorem i_ixs {l : Tx} {i : Int} {c : Nat} {Q : VK} (hz : l.length ≤ sizeLine) (ha : atI l i = some c) (h : Q (.str (S [c])) H) : rIxS (.str (S l)) (.int i) H Q := ⟨S l, i, c, rfl, rfl, by rw [S_len]; exact hz, ha, h⟩
theorem i_meth {C : Addr} {m : Str} {sp : Sp} {E : XK} {ta : TE} {t : TA} {Q : VK} (h : ta σ H fun x H1 => ∃ a dx fs, x = .ref a ∧ H1 a = some (.ins C dx fs) ∧ fs.lookup m = none ∧ t σ H1 fun vs H2 => sp (x :: (vs ++ [])) H2 Q E) : tMeth C m sp [] E ta t σ H Q := h
end
theorem small_line {n : Nat} (h : n ≤ 100000) : n ≤ sizeLine := Nat.le_trans h (by decide)
theorem small_line' {n : Nat} (h : n ≤ 100000) : n < sizeLine := Nat.lt_of_le_of_lt h (by decide)

def sg1 : Tx := [32, 33, 34, 35, 36, 38, 39, 40, 41, 42, 43, 44, 45, 46, 47] ++ (List.range 49).map (· + 48)
def sg2 : Tx := (List.range 30).map (· + 97) ++ [10]
theorem sl_s1 : (" !\"#$&'()*+,-./0123456789:;<=>?@ABCDEFGHIJKLMNOPQRSTUVWXYZ[\\]^_`" : Str) = S sg1 := by decide +kernel
theorem sl_s2 : ("abcdefghijklmnopqrstuvwxyz{|}~\n" : Str) = S sg2 := by decide +kernel
theorem pes {X : Cx} {x : Str} {j : Nat} {pos : Pos} {l : Tx} (h : x = S l) : PE X (.Constant (.str x) j pos) (tC (.str (S l))) := by
  subst h
  exact pe_str
section
variable {X : Cx}
def rAddS : R2 := fun x y H Q => ∃ i j, x = .str i ∧ y = .str j ∧ i.length + j.length ≤ sizeLine ∧ Q (.str (i ++ j)) H
theorem op_addS : OpR X (binaryOp .Add) rAddS := op_add_str
def rIsN : R2 := fun x y H Q => y = .non ∧ Q (.bl (decide (x = .non))) H
theorem op_isNN : OpR X (compareOp .Is) rIsN := op_isN
def rNotN : R2 := fun x y H Q => y = .non ∧ Q (.bl (!decide (x = .non))) H
theorem op_notNN : OpR X (compareOp .IsNot) rNotN := op_notN
def rInS : R2 := fun x y H Q => ∃ (c : Nat) (z : Str), x = .str ⟨#[c]⟩ ∧ y = .str z ∧ Q (.bl (decide (c ∈ z.cps.toList))) H
theorem op_inS : OpR X (compareOp .In) rInS := op_in_sign
abbrev RL := List V → Hp → VK → Prop
def rLenQ (K : PySem.W.Frag) : RL := fun xs H Q => ∃ p ys, xs = [.ref p] ∧ (SqL K H p ys ∨ SqT K H p ys) ∧ Q (.int ys.length) H
theorem call_lenQ : CallR X (.builtin "len") (rLenQ X.K) := call_len_seq
def rLenS : RL := fun xs H Q => ∃ z, xs = [.str z] ∧ z.length ≤ sizeLine ∧ Q (.int z.length) H
theorem call_lenS : CallR X (.builtin "len") rLenS := call_len_str
def rListOf (K : PySem.W.Frag) : RL := fun xs H Q => ∃ p ys, xs = [.ref p] ∧ (SqL K H p ys ∨ SqT K H p ys) ∧ ∀ l, H l = none → Q (.ref l) (upd H l (.lst ys))
theorem call_listOf : CallR X (.type "list") (rListOf X.K) := call_list_of
def rTupleOf (K : PySem.W.Frag) : RL := fun xs H Q => ∃ p ys, xs = [.ref p] ∧ ((SqL K H p ys ∧ ∀ l, H l = none → Q (.ref l) (upd H l (.tup ys))) ∨ (SqT K H p ys ∧ Q (.ref p) H))
theorem call_tupleOf : CallR X (.type "tuple") (rTupleOf X.K) := call_tuple_of
def rMax2 : RL := fun xs H Q => ∃ i j, xs = [.int i, .int j] ∧ Q (.int (if j > i then j else i)) H
theorem call_maxI (hc : X.calm = true) : CallR X (.builtin "max") rMax2 := call_max2 hc
def rMin2 : RL := fun xs H Q => ∃ i j, xs = [.int i, .int j] ∧ Q (.int (if j < i then j else i)) H
theorem call_minI (hc : X.calm = true) : CallR X (.builtin "min") rMin2 := call_min2 hc
end
theorem i_adds {a b : Tx} {H : Hp} {Q : VK} (h : a.length + b.length ≤ 100000) (q : Q (.str (S (a ++ b))) H) : rAddS (.str (S a)) (.str (S b)) H Q :=
  ⟨S a, S b, rfl, rfl, by rw [S_len, S_len]; exact small_line h, by rw [S_app]; exact q⟩
theorem i_isNN {x : V} {H : Hp} {Q : VK} (q : Q (.bl (decide (x = .non))) H) : rIsN x .non H Q := ⟨rfl, q⟩
theorem i_notNN {x : V} {H : Hp} {Q : VK} (q : Q (.bl (!decide (x = .non))) H) : rNotN x .non H Q := ⟨rfl, q⟩
theorem i_inS {c : Nat} {l : Tx} {H : Hp} {Q : VK} (q : Q (.bl (decide (c ∈ l))) H) : rInS (.str (S [c])) (.str (S l)) H Q := ⟨c, S l, rfl, rfl, q⟩
theorem i_maxI {i j : Int} {H : Hp} {Q : VK} (q : Q (.int (if j > i then j else i)) H) : rMax2 [.int i, .int j] H Q := ⟨i, j, rfl, q⟩
theorem i_minI {i j : Int} {H : Hp} {Q : VK} (q : Q (.int (if j < i then j else i)) H) : rMin2 [.int i, .int j] H Q := ⟨i, j, rfl, q⟩
theorem i_listOf {K : PySem.W.Frag} {p : Addr} {xs : List V} {H : Hp} {Q : VK} (h : SqL K H p xs) (q : ∀ l, H l = none → Q (.ref l) (upd H l (.lst xs))) : rListOf K [.ref p] H Q := ⟨p, xs, rfl, .inl h, q⟩
theorem i_tupleOf {K : PySem.W.Frag} {p : Addr} {xs : List V} {H : Hp} {Q : VK} (h : SqL K H p xs) (q : ∀ l, H l = none → Q (.ref l) (upd H l (.tup xs))) : rTupleOf K [.ref p] H Q := ⟨p, xs, rfl, .inl ⟨h, q⟩⟩
theorem i_muls {c : Nat} {n : Int} {H : Hp} {Q : VK} (h1 : 0 ≤ n) (h2 : n ≤ 1000) (q : Q (.str (S (List.replicate n.toNat c))) H) : rMulS (.str (S [c])) (.int n) H Q :=
  ⟨c, n, rfl, rfl, by omega, h2, q⟩
theorem i_lens {l : Tx} {H : Hp} {Q : VK} (h : l.length ≤ 100000) (q : Q (.int (l.length : Int)) H) : rLenS [.str (S l)] H Q :=
  ⟨S l, rfl, by rw [S_len]; exact small_line h, by rw [S_len]; exact q⟩
theorem i_lenl {K : PySem.W.Frag} {p : Addr} {xs : List V} {H : Hp} {Q : VK} (h : SqL K H p xs) (q : Q (.int (xs.length : Int)) H) : rLenQ K [.ref p] H Q := ⟨p, xs, rfl, .inl h, q⟩
theorem i_lent {K : PySem.W.Frag} {p : Addr} {xs : List V} {H : Hp} {Q : VK} (h : SqT K H p xs) (q : Q (.int (xs.length : Int)) H) : rLenQ K [.ref p] H Q := ⟨p, xs, rfl, .inr h, q⟩
theorem fmod_bd {a m : Int} (h : 0 < m) : 0 ≤ a.fmod m ∧ a.fmod m < m := by
  rw [Int.fmod_eq_emod_of_nonneg a (by omega)]
  exact ⟨Int.emod_nonneg _ (by omega), Int.emod_lt_of_pos _ h⟩
theorem at_lt {α : Type} {xs : List α} {i : Int} (h0 : 0 ≤ i) (h1 : i < (xs.length : Int)) : ∃ v, v ∈ xs ∧ atI xs i = some v := by
  obtain ⟨n, rfl⟩ := Int.eq_ofNat_of_zero_le h0
  have hn : n < xs.length := by omega
  exact ⟨xs[n], List.getElem_mem hn, atI_nat (List.getElem?_eq_getElem hn)⟩
theorem same_new {H : Hp} {p : Addr} (h : H p = none) (o : HO) : Same H (upd H p o) := fun b u q => by rw [upd_ne (ne_of_none q h)]; exact q
/-- an object that the base does not know may be laid or changed -/
theorem smut {H H' : Hp} {p : Addr} (e : Same H H') (h : H p = none) (o : HO) : Same H (upd H' p o) := fun b u q => by rw [upd_ne (ne_of_none q h)]; exact e b u q
theorem i_mod {i j : Int} {H : Hp} {Q : VK} (c : j ≠ 0) (h : Q (.int (i.fmod j)) H) : rI (fun _ j => j ≠ 0) (fun i j => .int (i.fmod j)) (.int i) (.int j) H Q := ⟨i, j, rfl, rfl, c, h⟩
theorem i_fdv {i j : Int} {H : Hp} {Q : VK} (c : j ≠ 0 ∧ j.natAbs < 1073741824) (h : Q (.int (i.fdiv j)) H) : rI CDivN (fun i j => .int (i.fdiv j)) (.int i) (.int j) H Q := ⟨i, j, rfl, rfl, c, h⟩
theorem i_mulL {i j : Int} {H : Hp} {Q : VK} (c : -(2 ^ 64) < i ∧ i < 2 ^ 64) (h : Q (.int (i * j)) H) : rI CMul (fun i j => .int (i * j)) (.int i) (.int j) H Q := ⟨i, j, rfl, rfl, .inl c, h⟩
theorem i_mulR {i j : Int} {H : Hp} {Q : VK} (c : -(2 ^ 64) < j ∧ j < 2 ^ 64) (h : Q (.int (i * j)) H) : rI CMul (fun i j => .int (i * j)) (.int i) (.int j) H Q := ⟨i, j, rfl, rfl, .inr c, h⟩
theorem i_bm {K : PySem.W.Frag} {T : String} {r : V → List V → Hp → VK → Prop} {to : TE} {t : TA} {σ : L2.St} {H : Hp} {Q : VK} (h : to σ H fun x H1 => tyV K T x H1 ∧ t σ H1 fun xs H2 => r x xs H2 Q) : tBM K T r to t σ H Q := h
theorem i_bm0 {K : PySem.W.Frag} {T : String} {r : V → List V → Hp → VK → Prop} {to : TE} {σ : L2.St} {H : Hp} {Q : VK} (h : to σ H fun x H1 => tyV K T x H1 ∧ r x [] H1 Q) : tBM0 K T r to σ H Q := h
theorem i_ty {K : PySem.W.Frag} {l : Addr} {xs : List V} {H : Hp} {B : Prop} (h : H l = some (.lst xs)) (b : B) : tyV K "list" (.ref l) H ∧ B := ⟨.inl ⟨rfl, _, SqL.of h⟩, b⟩
theorem i_app {l : Addr} {xs : List V} {y : V} {H : Hp} {Q : VK} (h : H l = some (.lst xs)) (hz : xs.length ≤ 100000) (q : Q .non (upd H l (.lst (xs ++ [y])))) : rAppend (.ref l) [y] H Q := ⟨l, xs, y, rfl, rfl, h, small_line' hz, q⟩
abbrev txts (ls : List Tx) : List V := ls.map fun l => V.str (S l)
abbrev nums (ns : List Nat) : List V := ns.map fun (n : Nat) => V.int (n : Int)
theorem flat_txts (ls : List Tx) : (txts ls).all flatV = true := by
  rw [List.all_eq_true]
  intro x hx
  obtain ⟨l, _, rfl⟩ := List.mem_map.mp hx
  rfl
theorem flat_nums (ns : List Nat) : (nums ns).all flatV = true := by
  rw [List.all_eq_true]
  intro x hx
  obtain ⟨l, _, rfl⟩ := List.mem_map.mp hx
  rfl
theorem inV_txts (l : Tx) (ls : List Tx) : inV (.str (S l)) (txts ls) = decide (l ∈ ls) := by
  unfold inV txts
  rw [List.any_map, Bool.eq_iff_iff, List.any_eq_true, decide_eq_true_eq]
  constructor
  · rintro ⟨x, hx, e⟩
    have e' : (S x == S l) = true := e
    rw [beq_iff_eq] at e'
    rw [← S_inj e']; exact hx
  · intro h
    exact ⟨l, h, by show (S l == S l) = true; rw [beq_iff_eq]⟩
theorem inV_nums (n : Nat) (ns : List Nat) : inV (.int (n : Int)) (nums ns) = decide (n ∈ ns) := by
  unfold inV nums
  rw [List.any_map, Bool.eq_iff_iff, List.any_eq_true, decide_eq_true_eq]
  constructor
  · rintro ⟨x, hx, e⟩
    have e' : ((x : Int) == (n : Int)) = true := e
    rw [beq_iff_eq] at e'
    have : x = n := by omega
    rw [← this]; exact hx
  · intro h
    exact ⟨n, h, by show ((n : Int) == (n : Int)) = true; rw [beq_iff_eq]⟩
theorem i_inL {K : PySem.W.Frag} {p : Addr} {x : V} {xs : List V} {H : Hp} {Q : VK} (h : SqL K H p xs) (fx : flatV x = true) (fs : xs.all flatV = true) (q : Q (.bl (inV x xs)) H) : rIn K false x (.ref p) H Q := ⟨p, xs, rfl, .inl h, fx, fs, q⟩
theorem i_ninL {K : PySem.W.Frag} {p : Addr} {x : V} {xs : List V} {H : Hp} {Q : VK} (h : SqL K H p xs) (fx : flatV x = true) (fs : xs.all flatV = true) (q : Q (.bl (!inV x xs)) H) : rIn K true x (.ref p) H Q := ⟨p, xs, rfl, .inl h, fx, fs, q⟩
theorem not_dec {p : Prop} [Decidable p] (h : (!decide p) = true) : ¬ p := by simpa using h
theorem not_dec' {p : Prop} [Decidable p] (h : ¬ (!decide p) = true) : p := by simpa using h
theorem get_map {α β : Type} {f : α → β} {xs : List α} {i : Nat} {y : β} (h : (xs.map f)[i]? = some y) : ∃ x, xs[i]? = some x ∧ y = f x := by
  rw [List.getElem?_map] at h
  cases e : xs[i]? with
  | none => rw [e] at h; cases h
  | some x => rw [e] at h; exact ⟨x, rfl, (Option.some.inj h).symm⟩
theorem map_get {α β : Type} {f : α → β} {xs : List α} {i : Nat} {x : α} (h : xs[i]? = some x) : (xs.map f)[i]? = some (f x) := by
  rw [List.getElem?_map, h]; rfl
theorem i_yes {σ : L2.St} {H : Hp} {Q : Bool → Hp → Prop} (h : Q true H) : tYes σ H Q := h
theorem i_m1 {r : V → List V → Hp → VK → Prop} {to te : TE} {σ : L2.St} {H : Hp} {Q : VK} (h : to σ H fun x H1 => (∃ a, x = .str a) ∧ te σ H1 fun y H2 => r x [y] H2 Q) : tM1 r to te σ H Q := h
theorem i_isS {z : Str} {B : Prop} (b : B) : (∃ a, V.str z = .str a) ∧ B := ⟨⟨z, rfl⟩, b⟩
def rJoin (K : PySem.W.Frag) : V → List V → Hp → VK → Prop := fun x xs H Q => ∃ a p, ∃ ys : List Str, x = .str a ∧ xs = [.ref p] ∧ (SqL K H p (ys.map V.str) ∨ SqT K H p (ys.map V.str)) ∧ (ys.map (·.length)).sum + ys.length * a.length ≤ 16777216 ∧ Q (.str (Txt.join a ys)) H
theorem pe_joinN {X : Cx} {o e : Expr} {to te : TE} {apos pos : Pos} (ho : PE X o to) (he : PE X e te) (hs : starEach [e] X.env = [(false, eval e X.env)] := by rfl) (hbase : attributeBase o "join" X.env (eval o X.env) = eval o X.env := by rfl) (hline : (apos.endLine == pos.line) = true := by rfl) :
    PE X (.Call (.Attribute o "join" apos) [e] [] pos) (tM1 (rJoin X.K) to te) := pe_join ho he hs hbase hline
theorem join_none (ls : List Tx) : Txt.join (S []) (ls.map S) = S ls.flatten := by
  rw [TL.join_eq]
  induction ls with
  | nil => rfl
  | cons l r ih =>
    cases r with
    | nil =>
      show S l = S ([l].flatten)
      simp
    | cons m r =>
      show S l ++ S [] ++ Str.join (S []) ((m :: r).map S) = _
      rw [ih, S_app, S_app]
      simp
theorem i_join {K : PySem.W.Frag} {p : Addr} {ls : List Tx} {H : Hp} {Q : VK} (h : H p = some (.lst (txts ls))) (hz : ls.flatten.length ≤ 100000) (q : Q (.str (S ls.flatten)) H) : rJoin K (.str (S [])) [.ref p] H Q := by
  refine ⟨S [], p, ls.map S, rfl, rfl, .inl (SqL.of ?_), ?_, ?_⟩
  · rw [List.map_map]; exact h
  · rw [List.map_map, S_len]
    have e : (ls.map ((fun x : Str => x.length) ∘ S)).sum = ls.flatten.length := by
      rw [List.length_flatten]
      exact congrArg List.sum (List.map_congr_left fun l _ => S_len l)
    rw [e]
    show _ + _ * 0 ≤ _
    omega
  · rw [join_none]; exact q
theorem i_rng1 {ta : TA} {σ : L2.St} {H : Hp} {R : It → Hp → Prop} (h : ta σ H fun vs H1 => ∃ j : Int, vs = [.int j] ∧ -(2 ^ 62) ≤ j ∧ j < 2 ^ 62 ∧ R (Itr 0 j.toNat) H1) : iRng1 ta σ H R := h
theorem i_rng2 {ta : TA} {σ : L2.St} {H : Hp} {R : It → Hp → Prop} (h : ta σ H fun vs H1 => ∃ i j : Int, vs = [.int i, .int j] ∧ (-(2 ^ 62) ≤ i ∧ i < 2 ^ 62 ∧ -(2 ^ 62) ≤ j ∧ j < 2 ^ 62) ∧ R (Itr i (j - i).toNat) H1) : iRng2 ta σ H R := h
theorem i_ilist {K : PySem.W.Frag} {tl : TE} {σ : L2.St} {H : Hp} {R : It → Hp → Prop} (h : tl σ H fun x H1 => ∃ a, x = .ref a ∧ (∃ xs, SqL K H1 a xs) ∧ R (Itl K a) H1) : iList K tl σ H R := h
theorem i_itup {K : PySem.W.Frag} {tl : TE} {σ : L2.St} {H : Hp} {R : It → Hp → Prop} (h : tl σ H fun x H1 => ∃ a, x = .ref a ∧ (∃ xs, SqT K H1 a xs) ∧ R (Itt K a) H1) : iTup K tl σ H R := h
def FORW (g : TG) (tb : TS) (D : Ends) (σ : L2.St) (J : It) (H1 : Hp) : Prop := ∃ W : Nat → Nat → L2.St → Hp → Prop, (∃ m, W 0 m σ H1) ∧ ∀ i m σ H, W i m σ H →
  (J.stop i H ∧ D.nx σ H) ∨ (J.go i H ∧ ∃ N : L2.St → Hp → Prop, (∀ σ' H', N σ' H' → ∃ m', m' < m ∧ W (i + 1) m' σ' H') ∧ ∀ x H', J.yld i H x H' → g x σ H' fun σ2 H2 => tb { D with nx := N, ct := N, bk := D.nx } σ2 H2)
theorem i_for {wi : TI} {g : TG} {tb : TS} {D : Ends} {σ : L2.St} {H : Hp} (h : wi σ H (FORW g tb D σ)) : tFor wi g tb D σ H := h
def LCW (g : TG) (tt : TT) (te : TE) (vs : List Nat) (σ : L2.St) (Q : VK) (J : It) (H1 : Hp) : Prop := ∀ D, H1 D = none → ∃ W : Nat → Nat → Hp → Prop, (∃ m, W 0 m (upd H1 D (.lst []))) ∧ ∀ i m H, W i m H →
  (J.stop i H ∧ Q (.ref D) H) ∨ (J.go i H ∧ ∃ Nx : Hp → Prop, (∀ H', Nx H' → ∃ m', m' < m ∧ W (i + 1) m' H') ∧ ∀ x H', J.yld i H x H' → g x (wipe σ vs) H' fun σ2 H2 => wipe σ2 vs = wipe σ vs ∧ tt σ2 H2 fun b H3 =>
    if b = true then te σ2 H3 fun y H4 => ∃ acc, H4 D = some (.lst acc) ∧ acc.length < sizeLine ∧ Nx (upd H4 D (.lst (acc ++ [y]))) else Nx H3)
theorem i_lc {wi : TI} {g : TG} {tt : TT} {te : TE} {vs : List Nat} {σ : L2.St} {H : Hp} {Q : VK} (h : wi σ H (LCW g tt te vs σ Q)) : tLc wi g tt te vs σ H Q := h
/-! ## 14. What the top says -/
def GlV (mg : Str → Option Value) (x : Str) (v : V) : Prop := ∃ u, mg x = some u ∧ RelV v u
theorem pglob {X : Cx} {x : Str} {v : V} {pos : Pos} (h : GlV X.mg x v) (hg : Gl X x := by rfl) (hd : (x == ("__debug__" : Str)) = false := by decide) : PE X (.Name x pos) (tC v) := by
  obtain ⟨u, h1, h2⟩ := h
  exact pe_glob hg h1 h2 hd
structure Txt (K : PySem.W.Frag) (mg : Str → Option Value) (C : Addr) : Prop where
  len : mg "len" = none
  range : mg "range" = none
  list : mg "list" = none
  tuple : mg "tuple" = none
  dict : mg "dict" = none
  sorted : mg "sorted" = none
  max : mg "max" = none
  min : mg "min" = none
  gLow : GlV mg "SMALL_LETTERS" (.str (S lowers))
  gWord : GlV mg "SIGNS_OF_WORDS" (.str (S wordSigns))
  gMost : GlV mg "MOST_WORD" (.int 60)
  cl : Cls K C
  nStarts : NoAttr K C "starts"
  nSteps : NoAttr K C "steps"
  nGood : NoAttr K C "good"
  nPrices : NoAttr K C "prices"
  nStates : NoAttr K C "states"
  nCosts : NoAttr K C "costs"
  nInner : NoAttr K C "inner"
  nHead : NoAttr K C "head"
  nSigns : NoAttr K C "signs"
  nWhole : NoAttr K C "whole"
local macro_rules | `(tactic| walk_at "rd") => `(tactic| (repeat (first
  | with_reducible refine i_seq ?_ | with_reducible refine i_asg ?_ | with_reducible refine i_gname ?_ | ((with_reducible show tVar _ _ _ _); refine i_var (by rfl) ?_) | with_reducible refine i_c ?_
  | with_reducible refine i_op ?_ | with_reducible refine i_I0 ?_ | with_reducible refine i_k ?_ | with_reducible refine i_test ?_ | with_reducible refine i_tb ?_ | with_reducible refine i_cb ?_ | with_reducible refine i_cons ?_ | with_reducible refine i_nil ?_
  | with_reducible refine i_ifs ?_ | with_reducible refine i_ret ?_ | with_reducible refine i_next ?_ | with_reducible refine i_drop ?_ | with_reducible refine i_call ?_ | with_reducible refine i_un ?_ | with_reducible refine i_neg ?_
  | with_reducible refine i_mod (by decide) ?_ | with_reducible refine i_fdv ⟨by decide, by decide⟩ ?_ | with_reducible refine i_mulR (by decide) ?_ | with_reducible refine i_mulL (by decide) ?_ | with_reducible refine i_eq rfl ?_ | with_reducible refine i_ne rfl ?_ | with_reducible refine i_not ?_ | with_reducible refine i_notV ?_ | with_reducible refine i_and ?_ | with_reducible refine i_or ?_ | with_reducible refine i_andV ?_ | with_reducible refine i_orV ?_
  | with_reducible refine i_tup ?_ | with_reducible refine i_lst ?_ | with_reducible refine i_sl ?_ | with_reducible refine i_nopart ?_ | with_reducible refine i_part ?_ | with_reducible refine i_pint ?_ | with_reducible refine i_fld ?_ | with_reducible refine i_sfld ?_ | with_reducible refine i_meth ?_ | with_reducible refine i_isNN ?_ | with_reducible refine i_notNN ?_ | with_reducible refine i_inS ?_ | with_reducible refine i_rng1 ?_ | with_reducible refine i_rng2 ?_ | with_reducible refine i_ilist ?_ | with_reducible refine i_itup ?_ | with_reducible refine i_for ?_ | with_reducible refine i_lc ?_ | with_reducible refine i_yes ?_ | with_reducible refine iteT ?_ | with_reducible refine iteF ?_ | with_reducible refine i_m1 ?_ | with_reducible refine i_isS ?_ | with_reducible refine i_bm ?_ | with_reducible refine i_bm0 ?_ | with_reducible refine i_maxI ?_ | with_reducible refine i_minI ?_)))
local macro_rules | `(tactic| walk_at "rt") => `(tactic| (repeat (first
  | with_reducible refine i_gname ?_ | ((with_reducible show tVar _ _ _ _); refine i_var (by rfl) ?_) | with_reducible refine i_c ?_
  | with_reducible refine i_op ?_ | with_reducible refine i_I0 ?_ | with_reducible refine i_k ?_ | with_reducible refine i_test ?_ | with_reducible refine i_tb ?_ | with_reducible refine i_cb ?_ | with_reducible refine i_cons ?_ | with_reducible refine i_nil ?_
  | with_reducible refine i_ifs ?_ | with_reducible refine i_ret ?_ | with_reducible refine i_next ?_ | with_reducible refine i_drop ?_ | with_reducible refine i_call ?_ | with_reducible refine i_un ?_ | with_reducible refine i_neg ?_
  | with_reducible refine i_mod (by decide) ?_ | with_reducible refine i_fdv ⟨by decide, by decide⟩ ?_ | with_reducible refine i_mulR (by decide) ?_ | with_reducible refine i_mulL (by decide) ?_ | with_reducible refine i_eq rfl ?_ | with_reducible refine i_ne rfl ?_ | with_reducible refine i_not ?_ | with_reducible refine i_notV ?_ | with_reducible refine i_and ?_ | with_reducible refine i_or ?_ | with_reducible refine i_andV ?_ | with_reducible refine i_orV ?_
  | with_reducible refine i_tup ?_ | with_reducible refine i_lst ?_ | with_reducible refine i_sl ?_ | with_reducible refine i_nopart ?_ | with_reducible refine i_part ?_ | with_reducible refine i_pint ?_ | with_reducible refine i_fld ?_ | with_reducible refine i_sfld ?_ | with_reducible refine i_meth ?_ | with_reducible refine i_isNN ?_ | with_reducible refine i_notNN ?_ | with_reducible refine i_inS ?_ | with_reducible refine i_rng1 ?_ | with_reducible refine i_rng2 ?_ | with_reducible refine i_ilist ?_ | with_reducible refine i_itup ?_ | with_reducible refine i_for ?_ | with_reducible refine i_lc ?_ | with_reducible refine i_yes ?_ | with_reducible refine iteT ?_ | with_reducible refine iteF ?_ | with_reducible refine i_m1 ?_ | with_reducible refine i_isS ?_ | with_reducible refine i_bm ?_ | with_reducible refine i_bm0 ?_ | with_reducible refine i_maxI ?_ | with_reducible refine i_minI ?_)))
/-! ## 19. What stands in the heap -/
abbrev oV : Option Nat → V
  | none => .non
  | some k => .int (k : Int)
abbrev opts (c : Cs) : List V := c.map oV
theorem paired_get {α β : Type} {F : α → β → Prop} : ∀ {as : List α} {bs : List β} {i : Nat} {a : α}, Paired F as bs → as[i]? = some a → ∃ b, bs[i]? = some b ∧ F a b
  | _, _, i, a, .nil, e => by simp at e
  | _, _, 0, a, .cons h t, e => by simp at e; subst e; exact ⟨_, rfl, h⟩
  | _, _, i + 1, a, .cons h t, e => by simp at e; simpa using paired_get t e
theorem paired_get' {α β : Type} {F : α → β → Prop} : ∀ {as : List α} {bs : List β} {i : Nat} {b : β}, Paired F as bs → bs[i]? = some b → ∃ a, as[i]? = some a ∧ F a b
  | _, _, i, a, .nil, e => by simp at e
  | _, _, 0, a, .cons h t, e => by simp at e; subst e; exact ⟨_, rfl, h⟩
  | _, _, i + 1, a, .cons h t, e => by simp at e; simpa using paired_get' t e
theorem paired_snoc {α β : Type} {F : α → β → Prop} {as : List α} {bs : List β} {a : α} {b : β} (h : Paired F as bs) (x : F a b) : Paired F (as ++ [a]) (bs ++ [b]) := Paired.snoc h x
theorem paired_mono {α β : Type} {F G : α → β → Prop} {as : List α} {bs : List β} (h : Paired F as bs) (f : ∀ a b, F a b → G a b) : Paired G as bs := Paired.mapP h f
/-- the starts: a list of pairs -/
def StartsAt (H : Hp) (a : Addr) (ss : List (Tx × Nat)) : Prop := ∃ ts : List Addr, H a = some (.lst (ts.map V.ref)) ∧ Paired (fun t (p : Tx × Nat) => H t = some (.tup [.str (S p.1), .int (p.2 : Int)])) ts ss
/-- a list of lists of states -/
def StepsAt (H : Hp) (a : Addr) (R : List (List Nat)) : Prop := ∃ rs : List Addr, H a = some (.lst (rs.map V.ref)) ∧ Paired (fun r (row : List Nat) => H r = some (.lst (nums row))) rs R
/-- a list of lists of costs -/
def TablesAt (H : Hp) (rs : List Addr) (R : List Cs) : Prop := Paired (fun r (c : Cs) => H r = some (.lst (opts c))) rs R
theorem StartsAt.mono {H H' : Hp} {a : Addr} {ss : List (Tx × Nat)} (s : Same H H') (h : StartsAt H a ss) : StartsAt H' a ss := by
  obtain ⟨ts, h1, h2⟩ := h
  exact ⟨ts, s _ _ h1, paired_mono h2 fun _ _ q => s _ _ q⟩
theorem StepsAt.mono {H H' : Hp} {a : Addr} {R : List (List Nat)} (s : Same H H') (h : StepsAt H a R) : StepsAt H' a R := by
  obtain ⟨ts, h1, h2⟩ := h
  exact ⟨ts, s _ _ h1, paired_mono h2 fun _ _ q => s _ _ q⟩
theorem TablesAt.mono {H H' : Hp} {rs : List Addr} {R : List Cs} (s : Same H H') (h : TablesAt H rs R) : TablesAt H' rs R := paired_mono h fun _ _ q => s _ _ q
/-- a machine: a tuple of its three lists -/
def MacAt (H : Hp) (m : Addr) (M : Mac) : Prop := ∃ a1 a2 a3 : Addr, H m = some (.tup [.ref a1, .ref a2, .ref a3]) ∧ StartsAt H a1 M.starts ∧ StepsAt H a2 M.steps ∧ H a3 = some (.lst (nums M.good))
theorem MacAt.mono {H H' : Hp} {m : Addr} {M : Mac} (s : Same H H') (h : MacAt H m M) : MacAt H' m M := by
  obtain ⟨a1, a2, a3, h0, h1, h2, h3⟩ := h
  exact ⟨a1, a2, a3, s _ _ h0, h1.mono s, h2.mono s, s _ _ h3⟩
mutual
def TreeAt (H : Hp) : Addr → T → Prop
  | r, .node g w ks => ∃ (k : Addr) (as : List Addr), H r = some (.tup [.str (S g), .str (S w), .ref k]) ∧ H k = some (.tup (as.map V.ref)) ∧ TreesAt H as ks
def TreesAt (H : Hp) : List Addr → List T → Prop
  | [], [] => True
  | a :: as, t :: ts => TreeAt H a t ∧ TreesAt H as ts
  | [], _ :: _ => False
  | _ :: _, [] => False
end
mutual
theorem TreeAt.mono {H H' : Hp} (s : Same H H') : ∀ {r : Addr} {t : T}, TreeAt H r t → TreeAt H' r t
  | r, .node g w ks, h => by
    obtain ⟨k, as, h1, h2, h3⟩ := h
    exact ⟨k, as, s _ _ h1, s _ _ h2, TreesAt.mono s h3⟩
theorem TreesAt.mono {H H' : Hp} (s : Same H H') : ∀ {as : List Addr} {ts : List T}, TreesAt H as ts → TreesAt H' as ts
  | [], [], _ => trivial
  | a :: as, t :: ts, h => ⟨TreeAt.mono s h.1, TreesAt.mono s h.2⟩
  | [], _ :: _, h => h.elim
  | _ :: _, [], h => h.elim
end
theorem trees_len {H : Hp} : ∀ {as : List Addr} {ts : List T}, TreesAt H as ts → as.length = ts.length
  | [], [], _ => rfl
  | a :: as, t :: ts, h => by simp [trees_len h.2]
  | [], _ :: _, h => h.elim
  | _ :: _, [], h => h.elim
theorem trees_get {H : Hp} : ∀ {as : List Addr} {ts : List T} {i : Nat} {a : Addr}, TreesAt H as ts → as[i]? = some a → ∃ t, ts[i]? = some t ∧ TreeAt H a t
  | [], [], i, a, _, e => by simp at e
  | b :: as, t :: ts, 0, a, h, e => by simp at e; subst e; exact ⟨t, rfl, h.1⟩
  | b :: as, t :: ts, i + 1, a, h, e => by simp at e; simpa using trees_get h.2 e
  | [], _ :: _, _, _, h, _ => h.elim
  | _ :: _, [], _, _, h, _ => h.elim
theorem trees_append {H : Hp} : ∀ {as bs : List Addr} {ts us : List T}, TreesAt H as ts → TreesAt H bs us → TreesAt H (as ++ bs) (ts ++ us)
  | [], bs, [], us, _, h => h
  | a :: as, bs, t :: ts, us, h, h2 => ⟨h.1, trees_append h.2 h2⟩
  | [], _, _ :: _, _, h, _ => h.elim
  | _ :: _, _, [], _, h, _ => h.elim
theorem trees_take {H : Hp} : ∀ {as : List Addr} {ts : List T} (n : Nat), TreesAt H as ts → TreesAt H (as.take n) (ts.take n)
  | _, _, 0, _ => trivial
  | [], [], n + 1, _ => trivial
  | a :: as, t :: ts, n + 1, h => ⟨h.1, trees_take n h.2⟩
  | [], _ :: _, _ + 1, h => h.elim
  | _ :: _, [], _ + 1, h => h.elim
theorem trees_drop {H : Hp} : ∀ {as : List Addr} {ts : List T} (n : Nat), TreesAt H as ts → TreesAt H (as.drop n) (ts.drop n)
  | _, _, 0, h => h
  | [], [], n + 1, _ => trivial
  | a :: as, t :: ts, n + 1, h => trees_drop n h.2
  | [], _ :: _, _ + 1, h => h.elim
  | _ :: _, [], _ + 1, h => h.elim
theorem nodes_pos : ∀ t : T, 1 ≤ t.nodes
  | .node _ _ ks => Nat.le_add_right 1 (nodess ks)
theorem nodes_get : ∀ {ks : List T} {i : Nat} {t : T}, ks[i]? = some t → t.nodes ≤ nodess ks
  | [], _, _, h => by simp at h
  | k :: ks, 0, t, h => by
    simp at h
    subst h
    exact Nat.le_add_right _ _
  | k :: ks, i + 1, t, h => Nat.le_trans (nodes_get (i := i) (by simpa using h)) (Nat.le_add_left _ _)
theorem oks_get : ∀ {ks : List T} {i : Nat} {t : T}, Oks ks → ks[i]? = some t → t.Ok
  | [], _, _, _, h => by simp at h
  | k :: ks, 0, t, ok, h => by
    simp at h
    subst h
    exact ok.1
  | k :: ks, i + 1, t, ok, h => oks_get (i := i) ok.2 (by simpa using h)
theorem texts_flat : ∀ ks : List T, texts ks = (ks.map T.text).flatten
  | [] => rfl
  | t :: r => by
    show t.text ++ texts r = _
    rw [texts_flat r]
    rfl
theorem sts_snoc (M : Mac) (p : Nat) (t : T) : ∀ ks : List T, sts M p (ks ++ [t]) = sp M.steps (sts M p ks) (t.st M)
  | [] => rfl
  | k :: r => by
    show sts M p (k :: (r ++ [t])) = _
    exact go M t r (sp M.steps p (k.st M))
where
  go (M : Mac) (t : T) : ∀ (r : List T) (p : Nat), sts M p (r ++ [t]) = sp M.steps (sts M p r) (t.st M)
    | [], p => rfl
    | k :: r, p => go M t r (sp M.steps p (k.st M))
theorem take_snoc {α : Type} {xs : List α} {i : Nat} {x : α} (h : xs[i]? = some x) : xs.take (i + 1) = xs.take i ++ [x] := by
  rw [List.take_add_one, h]; rfl
theorem kids_le : ∀ ks : List T, ks.length ≤ nodess ks
  | [] => Nat.zero_le _
  | k :: r => by
    have := nodes_pos k
    have := kids_le r
    show r.length + 1 ≤ k.nodes + nodess r
    omega
/-! ## 23. sorted(a list of pairs, a text and a number) -/
section
variable {X : Cx}
abbrev Pr := Addr × (Tx × Nat)
def rSortedTI (K : PySem.W.Frag) : RL := fun vs H Q => ∃ (a : Addr) (bs : List Pr), vs = [V.ref a] ∧ SqL K H a (bs.map fun b => V.ref b.1) ∧ (∀ b ∈ bs, H b.1 = some (.tup [.str (S b.2.1), .int (b.2.2 : Int)])) ∧
  ∀ (ys : List Pr) (p : Addr), ys.Perm bs → H p = none → Q (.ref p) (upd H p (.lst (ys.map fun b => V.ref b.1)))
def encP (b : Pr) : PyData := .tuple [.str (S b.2.1), .int (b.2.2 : Int)]
theorem refs_each : ∀ {bs : List Pr} {its : List Value}, Vals (bs.map fun b => V.ref b.1) its → PySem.W.EachIs (fun (v : Value) (b : Pr) => v = .ref b.1) its bs
  | [], _, h => by cases h; exact .nil
  | b :: r, _, h => by
    cases h with
    | cons h1 h2 => exact .cons h1 (refs_each h2)
theorem each_refs : ∀ {ys : List Pr} {out : List Value}, PySem.W.EachIs (fun (v : Value) (b : Pr) => v = .ref b.1) out ys → Vals (ys.map fun b => V.ref b.1) out
  | _, _, .nil => .nil
  | _, _, .cons h t => .cons h (each_refs t)
theorem each_with {α β : Type} {R S' : α → β → Prop} : ∀ {as : List α} {bs : List β}, PySem.W.EachIs R as bs → (∀ a b, b ∈ bs → R a b → S' a b) → PySem.W.EachIs S' as bs
  | _, _, .nil, _ => .nil
  | _, _, .cons h t, f => .cons (f _ _ List.mem_cons_self h) (each_with t fun a b m => f a b (List.mem_cons_of_mem _ m))
theorem cr_sortedTI (hu : X.A.units + 64 < cLine) : CallR X (.builtin "sorted") (rSortedTI X.K) := by
  intro pins s σ H vs us Q I r h
  obtain ⟨a, bs, rfl, hs, hx, q⟩ := h
  obtain ⟨its, rv, hl, hz⟩ := I.list hs
  cases r with
  | cons ru rn =>
    cases rn
    cases ru
    have e := refs_each rv
    have hzb : bs.length ≤ sizeLine := by rw [List.length_map] at hz; exact hz
    have er : PySem.W.EachIs (fun (v : Value) (b : Pr) => ∃ as, Reads s.heap v (encP b) as) its bs := by
      refine each_with e fun v b hb hv => ?_
      subst hv
      obtain ⟨_, its2, r2, o, ho, hc, n, hd⟩ := I.hok _ _ (hx b hb)
      cases r2 with
      | cons r1 r3 =>
        cases r3 with
        | cons r4 r5 =>
          cases r5
          obtain ⟨t1, rfl⟩ := r1
          obtain ⟨t2, rfl⟩ := r4
          exact ⟨_, .tuple ho hc hd (.cons (.str _ _) (.cons (.int _ _) .nil))⟩
    refine PySem.W.sorted_data hl.isList e er (PySem.W.AllAlike.of fun b b' => by simp [PySem.W.alike, PySem.W.alikeAll, encP]) (PySem.W.Sortable.tuples fun b => ⟨_, _, rfl⟩) hzb (fun b _ => ?_) fun out ho eo => ?_
    · have hd : (encP b).depth = 1 := by simp [encP, PyData.depth, PyData.depthAll]
      omega
    · obtain ⟨ep, he'⟩ := PyProof.Rows.sortedAll_at s.heap its out.toArray
      have hp : (bs.mergeSort (PySem.W.dataLe false encP)).Perm bs := List.mergeSort_perm _ _
      have hfr := I.hok.fresh (Nat.le_succ s.heap.objs.size)
      refine ⟨.ref (s.heap.objs.size + 1), upd H (s.heap.objs.size + 1) (.lst ((bs.mergeSort (PySem.W.dataLe false encP)).map fun b => V.ref b.1)), I.laid (t' := s.toks) (fun _ _ => PyProof.Rows.sortedAll_old) (Nat.le_succ _) ⟨?_, out, ep, each_refs eo, he'⟩, rfl, q _ _ hp hfr⟩
      rw [List.length_map, hp.length_eq]
      exact hzb
end
/-! ## 25. More of the heap -/
def hide (bs : List Addr) (H : Hp) : Hp := fun b => if b ∈ bs then none else H b
theorem hide_same (bs : List Addr) (H : Hp) : Same (hide bs H) H := fun b o h => by
  unfold hide at h
  split at h
  · cases h
  · exact h
theorem hide_none {bs : List Addr} {H : Hp} {b : Addr} (h : b ∈ bs) : hide bs H b = none := by unfold hide; rw [if_pos h]
theorem hide_get {bs : List Addr} {H : Hp} {b : Addr} (h : b ∉ bs) : hide bs H b = H b := by unfold hide; rw [if_neg h]
theorem hide_upd {bs : List Addr} {H : Hp} {b : Addr} {o : HO} (h : b ∈ bs) : hide bs (upd H b o) = hide bs H := by
  funext c
  unfold hide
  by_cases hc : c ∈ bs
  · rw [if_pos hc, if_pos hc]
  · rw [if_neg hc, if_neg hc, upd_ne (fun e => hc (by rw [e]; exact h))]
theorem hide_new {bs : List Addr} {H : Hp} {p : Addr} {o : HO} (h : H p = none) : Same (hide bs H) (hide bs (upd H p o)) := fun b u e => by
  unfold hide at e ⊢
  split at e
  · cases e
  · rename_i hb
    rw [if_neg hb, upd_ne (ne_of_none e h)]; exact e
theorem hide_mono {bs : List Addr} {H H' : Hp} (s : Same H H') : Same (hide bs H) (hide bs H') := fun b u e => by
  unfold hide at e ⊢
  split at e
  · cases e
  · rename_i hb
    rw [if_neg hb]; exact s b u e
theorem opts_at {c : Cs} {s : Nat} (h : s < c.length) : atI (opts c) (s : Int) = some (oV (gt c s)) := by
  refine atI_nat ?_
  rw [List.getElem?_map, List.getElem?_eq_getElem h]
  unfold gt
  rw [List.getD_eq_getElem?_getD, List.getElem?_eq_getElem h]
  rfl
theorem opts_set (c : Cs) (s v : Nat) : (opts c).set s (V.int (v : Int)) = opts (c.set s (some v)) := by
  unfold opts
  rw [List.map_set]
theorem iT {c : Bool} {A B : Prop} (h : c = true) (a : A) : if c = true then A else B := by rw [if_pos h]; exact a
theorem iF {c : Bool} {A B : Prop} (h : c = false) (b : B) : if c = true then A else B := by rw [h]; exact iteF b
theorem non_non : decide (V.non = V.non) = true := decide_eq_true rfl
theorem int_non (i : Int) : decide (V.int i = V.non) = false := decide_eq_false (fun h => by cases h)
theorem nint_non (i : Int) : (!decide (V.int i = V.non)) = true := by rw [int_non]; rfl
theorem nnon_non : (!decide (V.non = V.non)) = false := by rw [non_non]; rfl
theorem dec_lt {a b : Nat} : decide ((a : Int) < (b : Int)) = decide (a < b) := by
  by_cases h : a < b
  · rw [decide_eq_true h, decide_eq_true (by omega)]
  · rw [decide_eq_false h, decide_eq_false (by omega)]
theorem turn_append {ι : Type} (tg : ι → Nat) (nw : ι → Cs → Option Nat) (a b : List ι) (s : Cs × Bool) : turn tg nw (a ++ b) s = turn tg nw b (turn tg nw a s) := by
  unfold turn
  rw [List.foldl_append]
/-- the pairs of the first i rows *)-/
def rowsTo (n i : Nat) : List (Nat × Nat) := (List.range i).flatMap fun i => (List.range (n - 1)).map fun j => (i + 1, j + 1)
def colsTo (i j : Nat) : List (Nat × Nat) := (List.range j).map fun j => (i + 1, j + 1)
theorem rowsTo_succ (n i : Nat) : rowsTo n (i + 1) = rowsTo n i ++ colsTo i (n - 1) := by
  unfold rowsTo colsTo
  rw [List.range_succ, List.flatMap_append]
  simp
theorem colsTo_succ (i j : Nat) : colsTo i (j + 1) = colsTo i j ++ [(i + 1, j + 1)] := by
  unfold colsTo
  rw [List.range_succ, List.map_append]
  rfl
theorem rowsTo_all (n : Nat) : rowsTo n (n - 1) = prs n := rfl
/-! ## 15. Draws -/
def spDraw (K : PySem.W.Frag) : Sp := fun vs H Q _ => ∃ (a : Addr) (ns : List Int) (k many : Int), vs = [.ref a, .int k, .int many] ∧ SqL K H a (ns.map V.int) ∧ 0 ≤ k ∧ k ≤ 100000 ∧ 0 < many ∧ ∀ r : Int, 0 ≤ r → r < many → Q (.int r) H
abbrev NDraw : List Str := ["_law_script", "_law_k", "_law_many", "_law_number"]
theorem scDraw : FnScope NDraw ["_law_script", "_law_k", "_law_many"] (defScope sDraw) := ⟨rfl, rfl, rfl, by decide +kernel, rfl, by decide +kernel, by decide +kernel⟩
section
variable {P : Program} {w : World} {K : PySem.W.Frag} {mg : Str → Option Value} {base : Heap} {C : Addr}
theorem ok_draw {f : Addr} {fd : FuncData} (F : Fun K "_law_draw" "_law_draw" sDraw f fd) (T : Txt K mg C) : FnOk P w K mg base CX0 1 f fd ["_law_script", "_law_k", "_law_many"] (spDraw K) := by
  refine F.ok scDraw (fun vs H Q E h => ?_) (fun cdv A outer s H vs Q E hr h => ?_)
  · obtain ⟨a, ns, k, many, rfl, _⟩ := h
    rfl
  · obtain ⟨a, ns, k, many, rfl, hS, k0, k1, hm, q⟩ := h
    refine ⟨_, (pss_cons (ps_if (pt_cmpR op_lt (pv 1) (pe_callB call_lenQ (by rfl) T.len (by decide +kernel) (pa_cons (pv 0) pa_nil)) (nomark _))
      (pss_one (ps_ret (pe_op op_modN (pe_ix ix_list (pv 0) (pv 1) (fun _ _ => rfl)) (pv 2))))
      pss_nil)
    (pss_cons (ps_set (i := 3) scDraw.nd rfl (Or.inl rfl) (pe_op op_add (pe_op op_mul (pv 1) (pv 1)) pe_int))
    (pss_cons (ps_if (pt_cmpR op_gt (pe_callB call_lenQ (by rfl) T.len (by decide +kernel) (pa_cons (pv 0) pa_nil)) pe_int (nomark _))
      (pss_one (ps_set (i := 3) scDraw.nd rfl (Or.inl rfl) (pe_op op_add (pv 3) (pe_op op_modN (pe_ix ix_list (pv 0) (pe_op op_modN (pv 1) (pe_callB call_lenQ (by rfl) T.len (by decide +kernel) (pa_cons (pv 0) pa_nil))) (fun _ _ => rfl)) pe_int))))
      pss_nil)
    (pss_one (ps_ret (pe_op op_modN (pe_op op_modN (pe_op op_mul (pv 3) pe_int) pe_int) (pv 2))))))), ?_⟩
    have item : ∀ i : Int, 0 ≤ i → i < (ns.length : Int) → ∃ z, atI (ns.map V.int) i = some (.int z) := fun i h0 h1 => by
      obtain ⟨n, rfl⟩ := Int.eq_ofNat_of_zero_le h0
      have hn : n < ns.length := by omega
      exact ⟨ns[n], atI_nat (by rw [List.getElem?_map, List.getElem?_eq_getElem hn]; rfl)⟩
    have fin : ∀ n : Int, Q (.int (n.fmod many)) H := fun n => q _ (fmod_bd hm).1 (fmod_bd hm).2
    walk_at "rd"
    refine i_lenl hS ?_
    rw [List.length_map]
    walk_at "rd"
    refine ite2 (fun c => ?_) (fun c => ?_)
    · have c' := of_decide_eq_true c
      walk_at "rd"
      obtain ⟨z, hz⟩ := item k k0 c'
      refine i_ixl hS hz ?_
      walk_at "rd"
      exact i_mod (by omega) (fin _)
    · walk_at "rd"
      refine i_mulL ⟨by omega, by omega⟩ ?_
      walk_at "rd"
      refine i_lenl hS ?_
      rw [List.length_map]
      walk_at "rd"
      refine ite2 (fun c => ?_) (fun c => ?_)
      · have c' := of_decide_eq_true c
        walk_at "rd"
        refine i_lenl hS ?_
        rw [List.length_map]
        refine i_mod (by omega) ?_
        obtain ⟨z, hz⟩ := item _ (fmod_bd c').1 (fmod_bd c').2
        refine i_ixl hS hz ?_
        walk_at "rd"
        exact i_mod (by omega) (fin _)
      · walk_at "rd"
        exact i_mod (by omega) (fin _)
end
/-! ## 16. Labels, words, signs of the law -/
def spLabel : Sp := fun vs H Q _ => ∃ m : Int, vs = [.int m] ∧ 0 ≤ m ∧ ∀ (l : Tx) (H' : Hp), LabOk l → Same H H' → Q (.str (S l)) H'
abbrev NLabel : List Str := ["_law_number", "_law_size", "_law_place", "_law_sign_here"]
theorem scLabel : FnScope NLabel ["_law_number"] (defScope sLabel) := ⟨rfl, rfl, rfl, by decide +kernel, rfl, by decide +kernel, by decide +kernel⟩
theorem label_ok {p n : Nat} {c : Nat} (hc : isLow c) (hl : (List.replicate p 97 ++ [c] ++ List.replicate n 97).length ≤ 8) : TagOk (List.replicate p 97 ++ [c] ++ List.replicate n 97) := by
  refine ⟨⟨by simp, hl⟩, fun x hx => ?_⟩
  rw [List.mem_append, List.mem_append] at hx
  rcases hx with (hx | hx) | hx
  · rw [(List.mem_replicate.mp hx).2]; decide
  · rw [List.mem_singleton.mp hx]; exact hc
  · rw [(List.mem_replicate.mp hx).2]; decide
theorem lowers_at {i : Int} (h0 : 0 ≤ i) (h1 : i < 26) : ∃ c, isLow c ∧ atI lowers i = some c := by
  obtain ⟨c, h2, h3⟩ := at_lt (xs := lowers) h0 (by show i < ((26 : Nat) : Int); omega)
  exact ⟨c, (mem_low c).mp h2, h3⟩
section
variable {P : Program} {w : World} {K : PySem.W.Frag} {mg : Str → Option Value} {base : Heap} {C : Addr}
theorem ok_label {f : Addr} {fd : FuncData} (F : Fun K "_law_label" "_law_label" sLabel f fd) (T : Txt K mg C) : FnOk P w K mg base CX0 1 f fd ["_law_number"] spLabel := by
  refine F.ok scLabel (fun vs H Q E h => ?_) (fun cdv A outer s H vs Q E hr h => ?_)
  · obtain ⟨m, rfl, _⟩ := h
    rfl
  · obtain ⟨m, rfl, m0, q⟩ := h
    refine ⟨_, (pss_cons (ps_set (i := 1) scLabel.nd rfl (Or.inl rfl) (pe_op op_add pe_int (pe_op op_modN (pv 0) pe_int)))
    (pss_cons (ps_set (i := 2) scLabel.nd rfl (Or.inl rfl) (pe_op op_modN (pe_op op_modN (pe_op op_fdivN (pv 0) pe_int) pe_int) (pv 1)))
    (pss_cons (ps_set (i := 3) scLabel.nd rfl (Or.inl rfl) (pe_ix ix_str (pes sl_low) (pe_op op_modN (pe_op op_fdivN (pv 0) pe_int) pe_int) (fun _ _ => rfl)))
    (pss_one (ps_ret (pe_op op_addS (pe_op op_addS (pe_op op_addS (pe_op op_mul_str (pes sl_lit5) (pv 2)) (pv 3)) (pe_op op_mul_str (pes sl_lit5) (pe_op op_sub (pe_op op_sub (pv 1) (pv 2)) pe_int))) (pe_ix ix_list (pe_lst (pa_cons (pes sl_lit4) (pa_cons (pes sl_lit3) pa_nil))) (pe_op op_modN (pe_op op_fdivN (pv 0) pe_int) pe_int) (fun _ _ => rfl)))))))), ?_⟩
    have b1 := fmod_bd (a := m) (m := 8) (by decide)
    have b2 := fmod_bd (a := m.fdiv 64) (m := 26) (by decide)
    have b3 := fmod_bd (a := m.fdiv 1664) (m := 2) (by decide)
    walk_at "rd"
    have b4 := fmod_bd (a := (m.fdiv 8).fmod 8) (m := 1 + m.fmod 8) (by omega)
    refine i_mod (by omega) ?_
    generalize ((m.fdiv 8).fmod 8).fmod (1 + m.fmod 8) = pl at b4 ⊢
    generalize m.fmod 8 = sz at b1 b4 ⊢
    walk_at "rd"
    obtain ⟨c, hc, hat⟩ := lowers_at b2.1 b2.2
    refine i_ixs (by decide) hat ?_
    walk_at "rd"
    refine i_muls b4.1 (by omega) ?_
    walk_at "rd"
    refine i_adds (by rw [List.length_replicate]; simp; omega) ?_
    walk_at "rd"
    refine i_muls (by omega) (by omega) ?_
    refine i_adds (by simp; omega) ?_
    walk_at "rd"
    refine ⟨by decide, fun p hp => ?_⟩
    walk_at "rd"
    have hlen : (List.replicate pl.toNat 97 ++ [c] ++ List.replicate (1 + sz - pl - 1).toNat 97).length ≤ 8 := by simp; omega
    have hg : TagOk (List.replicate pl.toNat 97 ++ [c] ++ List.replicate (1 + sz - pl - 1).toNat 97) := label_ok hc hlen
    generalize List.replicate pl.toNat 97 ++ [c] ++ List.replicate (1 + sz - pl - 1).toNat 97 = g at hg hlen ⊢
    generalize (m.fdiv 1664).fmod 2 = z at b3 ⊢
    have hz : z = 0 ∨ z = 1 := by omega
    rcases hz with rfl | rfl
    · refine i_ixl (v := .str (S [])) (.of upd_same) rfl ?_
      refine i_adds (by simp; omega) ?_
      rw [List.append_nil]
      exact q _ _ ⟨g, hg, .inl rfl⟩ (same_new hp _)
    · refine i_ixl (v := .str (S [58])) (.of upd_same) rfl ?_
      refine i_adds (by simp; omega) ?_
      exact q _ _ ⟨g, hg, .inr rfl⟩ (same_new hp _)
def spSign : Sp := fun vs H Q _ => ∃ m : Int, vs = [.int m] ∧ ∀ c : Nat, Q (.str (S [c])) H
abbrev NSign : List Str := ["_law_number", "_law_some"]
theorem scSign : FnScope NSign ["_law_number"] (defScope sSign) := ⟨rfl, rfl, rfl, by decide +kernel, rfl, by decide +kernel, by decide +kernel⟩
theorem ok_sign {f : Addr} {fd : FuncData} (F : Fun K "_law_sign" "_law_sign" sSign f fd) (T : Txt K mg C) : FnOk P w K mg base CX0 1 f fd ["_law_number"] spSign := by
  refine F.ok scSign (fun vs H Q E h => ?_) (fun cdv A outer s H vs Q E hr h => ?_)
  · obtain ⟨m, rfl, _⟩ := h
    rfl
  · obtain ⟨m, rfl, q⟩ := h
    refine ⟨_, (pss_cons (ps_set (i := 1) scSign.nd rfl (Or.inl rfl) (pes sl_s1))
    (pss_cons (ps_set (i := 1) scSign.nd rfl (Or.inl rfl) (pe_op op_addS (pv 1) (pes sl_s2)))
    (pss_one (ps_ret (pe_ix ix_str (pv 1) (pe_op op_modN (pv 0) pe_int) (fun _ _ => rfl)))))), ?_⟩
    walk_at "rd"
    refine i_adds (by decide) ?_
    walk_at "rd"
    have b := fmod_bd (a := m) (m := 95) (by decide)
    obtain ⟨c, _, hat⟩ := at_lt (xs := sg1 ++ sg2) b.1 (by show m.fmod 95 < ((95 : Nat) : Int); omega)
    exact i_ixs (by decide) hat (q c)
end
/-! ## 17. The labels -/
def spLabels (K : PySem.W.Frag) : Sp := fun vs H Q _ => ∃ (a : Addr) (ns : List Int) (k : Int), vs = [.ref a, .int k] ∧ SqL K H a (ns.map V.int) ∧ 0 ≤ k ∧ k ≤ 90000 ∧
  ∀ (p : Addr) (H' : Hp) (ls : List Tx), H p = none → Same H H' → H' p = some (.lst (txts ls)) → (∀ l ∈ ls, LabOk l) → ls.Nodup → ls ≠ [] → ls.length ≤ 4 → Q (.ref p) H'
abbrev NLabels : List Str := ["_law_script", "_law_k", "_law_labels_here", "_law_j", "_law_label_here"]
theorem scLabels : FnScope NLabels ["_law_script", "_law_k"] (defScope sLabels) := ⟨rfl, rfl, rfl, by decide +kernel, rfl, by decide +kernel, by decide +kernel⟩
section
variable {P : Program} {w : World} {K : PySem.W.Frag} {mg : Str → Option Value} {base : Heap} {C : Addr}
theorem ok_labels {f : Addr} {fd : FuncData} (F : Fun K "_law_labels" "_law_labels" sLabels f fd) (T : Txt K mg C)
    (cal_draw : Cal P w K mg base CX0 "_law_draw" 1 ["_law_script", "_law_k", "_law_many"] (spDraw K)) (cal_label : Cal P w K mg base CX0 "_law_label" 1 ["_law_number"] spLabel) :
    FnOk P w K mg base CX0 2 f fd ["_law_script", "_law_k"] (spLabels K) := by
  refine F.ok scLabels (fun vs H Q E h => ?_) (fun cdv A outer s H vs Q E hr h => ?_)
  · obtain ⟨a, ns, k, rfl, _⟩ := h
    rfl
  · obtain ⟨a, ns, k, rfl, hS, k0, k1, q⟩ := h
    refine ⟨_, (pss_cons (ps_set (i := 2) scLabels.nd rfl (Or.inl rfl) (pe_lst pa_nil))
    (pss_cons (ps_for PassesOwn.never rfl (pi_range1 rfl T.range (pa_cons pe_int pa_nil)) (pg_name (i := 3) scLabels.nd rfl (Or.inl rfl))
      (pss_cons (ps_set (i := 4) scLabels.nd rfl (Or.inl rfl) (pcal cal_label (hr.mono (by decide)) (pa_cons (pcal cal_draw (hr.mono (by decide)) (pa_cons (pv 0) (pa_cons (pe_op op_add (pv 1) (pv 3)) (pa_cons pe_int pa_nil)))) pa_nil)))
    (pss_one (ps_if (pt_cmpR op_notIn_seq (pv 4) (pv 2) rfl)
      (pss_one (ps_expr (pe_bm PySem.F.plainAttrs_list PySem.F.slot_list_append PySem.F.type_list_append mt_append (pv 2) (pa_cons (pv 4) pa_nil))))
      pss_nil))))
    (pss_one (ps_ret (pv 2))))), ?_⟩
    walk_at "rd"
    refine ⟨Nat.zero_le _, fun p hp => ?_⟩
    walk_at "rd"
    refine ⟨4, rfl, by decide, by decide, for_range (n := 4) (fun i σ H' => ∃ (ls : List Tx) (v3 v4 : Option V), σ = [some (.ref a), some (.int k), some (.ref p), v3, v4] ∧ Same H H' ∧ H' p = some (.lst (txts ls)) ∧
      (∀ l ∈ ls, LabOk l) ∧ ls.Nodup ∧ ls.length ≤ i ∧ (0 < i → ls ≠ [])) ⟨[], none, none, rfl, same_new hp _, upd_same, (fun _ h => by cases h), List.nodup_nil, Nat.le_refl 0, fun h => absurd h (Nat.lt_irrefl 0)⟩ ?_ ?_⟩
    · rintro i σ H' hi ⟨ls, v3, v4, rfl, sm, hl, ok, nd, len, ne⟩
      walk_at "rd"
      refine ⟨a, ns, k + (0 + (i : Int)), 3328, rfl, sm.seq hS, by omega, by omega, by decide, fun r r0 r1 => ?_⟩
      walk_at "rd"
      refine ⟨r, rfl, r0, fun l H2 okl s2 => ?_⟩
      walk_at "rd"
      have hl2 := s2 _ _ hl
      refine i_ninL (.of hl2) rfl (flat_txts ls) ?_
      rw [inV_txts]
      walk_at "rd"
      refine ite2 (fun c => ?_) (fun c => ?_)
      · have c' := not_dec c
        walk_at "rd"
        refine i_ty hl2 ?_
        walk_at "rd"
        refine i_app hl2 (by rw [List.length_map]; omega) ?_
        walk_at "rd"
        refine ⟨ls ++ [l], _, _, rfl, smut (sm.trans s2) hp _, by rw [upd_same]; simp, fun x hx => ?_, ?_, by simp; omega, fun _ => by simp⟩
        · rcases List.mem_append.mp hx with hx | hx
          · exact ok x hx
          · rw [List.mem_singleton.mp hx]; exact okl
        · exact List.nodup_append.mpr ⟨nd, by simp, fun x hx y hy => by rw [List.mem_singleton.mp hy]; intro e; subst e; exact c' hx⟩
      · have c' := not_dec' c
        walk_at "rd"
        exact ⟨ls, _, _, rfl, sm.trans s2, hl2, ok, nd, by omega, fun _ e => by rw [e] at c'; cases c'⟩
    · rintro σ H' ⟨ls, v3, v4, rfl, sm, hl, ok, nd, len, ne⟩
      walk_at "rd"
      exact q p H' ls hp sm hl ok nd (ne (by decide)) len
end
/-! ## 18. Words -/
def spWord : Sp := fun vs H Q _ => ∃ m : Int, vs = [.int m] ∧ 0 ≤ m ∧ ∀ (l : Tx) (H' : Hp), WordOk l → l ≠ [] → Same H H' → Q (.str (S l)) H'
abbrev NWord : List Str := ["_law_number", "_law_size", "_law_signs", "_law_j"]
theorem scWord : FnScope NWord ["_law_number"] (defScope sWord) := ⟨rfl, rfl, rfl, by decide +kernel, rfl, by decide +kernel, by decide +kernel⟩
theorem flatten_ones (cs : Tx) : (cs.map fun c => [c]).flatten = cs := by
  induction cs with
  | nil => rfl
  | cons c r ih => simp [ih]
section
variable {P : Program} {w : World} {K : PySem.W.Frag} {mg : Str → Option Value} {base : Heap} {C : Addr}
theorem ok_word {f : Addr} {fd : FuncData} (F : Fun K "_law_word" "_law_word" sWord f fd) (T : Txt K mg C) : FnOk P w K mg base CX0 1 f fd ["_law_number"] spWord := by
  refine F.ok scWord (fun vs H Q E h => ?_) (fun cdv A outer s H vs Q E hr h => ?_)
  · obtain ⟨m, rfl, _⟩ := h
    rfl
  · obtain ⟨m, rfl, m0, q⟩ := h
    refine ⟨_, (pss_cons (ps_set (i := 1) scWord.nd rfl (Or.inl rfl) (pe_op op_add pe_int (pe_op op_modN (pv 0) pe_int)))
    (pss_cons (ps_if (pt_cmpR op_eq (pe_op op_modN (pe_op op_fdivN (pv 0) pe_int) pe_int) pe_int (nomark _))
      (pss_one (ps_set (i := 1) scWord.nd rfl (Or.inl rfl) (pe_op op_sub pe_int (pe_op op_modN (pe_op op_fdivN (pv 0) pe_int) pe_int))))
      pss_nil)
    (pss_cons (ps_set (i := 2) scWord.nd rfl (Or.inr rfl) (pes sl_word))
    (pss_one (ps_ret (pe_joinN (pes sl_lit4) (pe_lc (own := [("_law_j", 3)]) (g := gName 3) (tt := tYes) rfl scWord.nd (pi_range1 rfl T.range (pa_cons (pv 1) pa_nil)) (blkOk_by (own := [("_law_j", 3)]) (N := NWord) (sc := defScope sWord) (by decide +kernel)) (fun _ _ _ _ _ => pg_name (i := 3) scWord.nd rfl (Or.inl rfl)) (fun _ _ _ _ _ => pts_nil) (fun _ _ _ _ _ => (pe_ix ix_str (pv 2) (pe_op op_modN (pe_op op_add (pe_op op_fdivN (pv 0) pe_int) (pe_op op_mul pe_int (pv 3))) pe_int) (fun _ _ => rfl)))))))))), ?_⟩
    have fin : ∀ z : Int, 1 ≤ z → z ≤ 60 →
        LCW (gName 3) tYes (tOp rIxS (tVar 2) (tOp (rI (fun _ j => j ≠ 0) fun i j => .int (i.fmod j)) (tOp (rI0 fun i j => .int (i + j)) (tOp (rI CDivN fun i j => .int (i.fdiv j)) (tVar 0) (tC (.int 5))) (tOp (rI CMul fun i j => .int (i * j)) (tC (.int 7)) (tVar 3))) (tC (.int 36)))) [3] [some (.int m), some (.int z), some (.str (S wordSigns)), none] (fun y H2 => rJoin K (.str (S [])) [y] H2 Q) (Itr 0 z.toNat) H := fun z z1 z2 => by
      refine fun D hD => lc_range (n := z.toNat) (fun i H' => ∃ cs : Tx, cs.length = i ∧ (∀ c ∈ cs, isLow c ∨ isFig c) ∧ Same H H' ∧ H' D = some (.lst (txts (cs.map fun c => [c]))))
        ⟨[], rfl, fun _ h => (by cases h), same_new hD _, upd_same⟩ ?_ ?_
      · rintro i H' hi ⟨cs, hl, hc, sm, hD'⟩
        walk_at "rd"
        refine ⟨rfl, ?_⟩
        walk_at "rd"
        have b := fmod_bd (a := m.fdiv 5 + 7 * (0 + (i : Int))) (m := 36) (by decide)
        obtain ⟨c, hm, hat⟩ := at_lt (xs := wordSigns) b.1 (by show _ < ((36 : Nat) : Int); omega)
        refine i_ixs (by decide) hat ?_
        refine ⟨_, hD', by rw [List.length_map, List.length_map]; exact small_line' (by omega), cs ++ [c], by simp [hl], fun x hx => ?_, smut sm hD _, by rw [upd_same]; simp⟩
        rcases List.mem_append.mp hx with hx | hx
        · exact hc x hx
        · rw [List.mem_singleton.mp hx]; exact (mem_word c).mp hm
      · rintro H' ⟨cs, hl, hc, sm, hD'⟩
        refine i_join hD' (by rw [flatten_ones]; omega) ?_
        rw [flatten_ones]
        exact q cs H' ⟨by omega, hc⟩ (by intro e; subst e; simp at hl; omega) sm
    have b1 := fmod_bd (a := m) (m := 5) (by decide)
    have b2 := fmod_bd (a := m.fdiv 20) (m := 2) (by decide)
    walk_at "rd"
    refine ite2 (fun c => ?_) (fun c => ?_)
    · walk_at "rd"
      exact ⟨_, rfl, by omega, by omega, fin _ (by omega) (by omega)⟩
    · walk_at "rd"
      exact ⟨_, rfl, by omega, by omega, fin _ (by omega) (by omega)⟩
end
/-! ## 20. A tree's text -/
def spText (n : Nat) : Sp := fun vs H Q _ => ∃ (r : Addr) (t : K39.T), vs = [.ref r] ∧ TreeAt H r t ∧ t.Ok ∧ t.nodes ≤ n ∧ n ≤ 100 ∧ ∀ H' : Hp, Same H H' → Q (.str (S t.text)) H'
abbrev NText : List Str := ["_law_tree_here", "_law_word_here", "_law_kid"]
theorem scText : FnScope NText ["_law_tree_here"] (defScope sText) := ⟨rfl, rfl, rfl, by decide +kernel, rfl, by decide +kernel, by decide +kernel⟩
section
variable {P : Program} {w : World} {K : PySem.W.Frag} {mg : Str → Option Value} {base : Heap} {C : Addr}
theorem ok_text {n : Nat} {f : Addr} {fd : FuncData} (F : Fun K "_law_text" "_law_text" sText f fd) (T : Txt K mg C) (cal_text : Cal P w K mg base CX0 "_law_text" n ["_law_tree_here"] (spText n)) :
    FnOk P w K mg base CX0 (n + 1) f fd ["_law_tree_here"] (spText (n + 1)) := by
  refine F.ok scText (fun vs H Q E h => ?_) (fun cdv A outer s H vs Q E hr h => ?_)
  · obtain ⟨r, t, rfl, _⟩ := h
    rfl
  · obtain ⟨r, ⟨g, wd, ks⟩, rfl, ht, ok, hn, hn2, q⟩ := h
    have hlen := text_len _ ok
    obtain ⟨ka, as, h1, h2, h3⟩ := ht
    obtain ⟨og, ow, ok2⟩ := ok
    have eT : (K39.T.node g wd ks).text = g ++ wpart wd ++ [40] ++ texts ks ++ [41] := rfl
    have hN : (K39.T.node g wd ks).nodes = 1 + nodess ks := rfl
    have eLen : (g ++ wpart wd ++ [40] ++ texts ks ++ [41]).length ≤ 71 * (K39.T.node g wd ks).nodes := by rw [← eT]; exact hlen
    refine ⟨_, (pss_cons (ps_set (i := 1) scText.nd rfl (Or.inl rfl) (pes sl_lit4))
    (pss_cons (ps_if (pt_cmpR op_ne (pe_ix ix_tup (pv 0) pe_int (fun _ _ => rfl)) (pes sl_lit4) (nomark _))
      (pss_one (ps_set (i := 1) scText.nd rfl (Or.inl rfl) (pe_op op_addS (pes sl_lit3) (pe_ix ix_tup (pv 0) pe_int (fun _ _ => rfl)))))
      pss_nil)
    (pss_one (ps_ret (pe_op op_addS (pe_op op_addS (pe_op op_addS (pe_op op_addS (pe_ix ix_tup (pv 0) pe_int (fun _ _ => rfl)) (pv 1)) (pes sl_lit1)) (pe_joinN (pes sl_lit4) (pe_lc (own := [("_law_kid", 2)]) (g := gName 2) (tt := tYes) rfl scText.nd (pi_tup (pe_ix ix_tup (pv 0) pe_int (fun _ _ => rfl))) (blkOk_by (own := [("_law_kid", 2)]) (N := NText) (sc := defScope sText) (by decide +kernel)) (fun _ _ _ _ _ => pg_name (i := 2) scText.nd rfl (Or.inl rfl)) (fun _ _ _ _ _ => pts_nil) (fun _ _ _ _ _ => (pcal cal_text (hr.mono (by omega)) (pa_cons (pv 2) pa_nil)))))) (pes sl_lit2)))))), ?_⟩
    have sq := SqT.of (K := K) h1
    have fin : LCW (gName 2) tYes (tCall (spText n) [] E0 (tCons (tVar 2) tNil)) [2] [some (.ref r), some (.str (S (wpart wd))), none]
        (fun y H2 => rJoin K (.str (S [])) [y] H2 fun y H2 => rAddS (.str (S (g ++ wpart wd ++ [40]))) y H2 fun x H1 => tC (.str (S [41])) [some (.ref r), some (.str (S (wpart wd))), none] H1 fun y H2 => rAddS x y H2 Q) (Itt K ka) H := by
      refine fun D hD => lc_tup (K := K) (a := ka) (xs := as.map V.ref) (fun i H' => Same H H' ∧ H' D = some (.lst (txts ((ks.take i).map K39.T.text)))) ⟨same_new hD _, upd_same⟩ (fun i H' _ h => SqT.of (h.1 _ _ h2)) ?_ ?_
      · rintro i x H' hi ⟨sm, hD'⟩
        obtain ⟨a, ha, rfl⟩ := get_map hi
        obtain ⟨t, ht, hat⟩ := trees_get h3 ha
        have hnt := nodes_get ht
        walk_at "rd"
        refine ⟨rfl, ?_⟩
        walk_at "rd"
        refine ⟨a, t, rfl, hat.mono sm, oks_get ok2 ht, by omega, by omega, fun H2 s2 => ?_⟩
        refine ⟨_, s2 _ _ hD', ?_, smut (sm.trans s2) hD _, ?_⟩
        · rw [List.length_map, List.length_map]
          have hks := kids_le ks
          have := List.length_take_le i ks
          have := List.length_take_le' i ks
          exact small_line' (by omega)
        · rw [upd_same, take_snoc ht]; simp
      · rintro H' ⟨sm, hD'⟩
        have e : ks.take (as.map V.ref).length = ks := List.take_of_length_le (by rw [List.length_map, trees_len h3]; exact Nat.le_refl _)
        rw [e] at hD'
        simp only [List.length_append, List.length_cons, List.length_nil] at eLen
        refine i_join hD' (by rw [← texts_flat]; omega) ?_
        rw [← texts_flat]
        refine i_adds (by simp only [List.length_append, List.length_cons, List.length_nil]; omega) ?_
        refine i_c ?_
        refine i_adds (by simp only [List.length_append, List.length_cons, List.length_nil]; omega) ?_
        exact q H' sm
    have hwl := ow.1
    have hgl := og.1.2
    walk_at "rd"
    refine i_ixt (v := .str (S wd)) sq rfl ?_
    walk_at "rd"
    rw [S_eq]
    refine ite2 (fun c => ?_) (fun c => ?_)
    · have c' : wd ≠ [] := not_dec c
      have ew : wpart wd = [58] ++ wd := by unfold wpart; rw [if_neg c']; rfl
      walk_at "rd"
      refine i_ixt (v := .str (S wd)) sq rfl ?_
      refine i_adds (by simp; omega) ?_
      rw [← ew]
      walk_at "rd"
      refine i_ixt (v := .str (S g)) sq rfl ?_
      walk_at "rd"
      refine i_adds (by rw [ew]; simp; omega) ?_
      walk_at "rd"
      refine i_adds (by rw [ew]; simp; omega) ?_
      walk_at "rd"
      refine i_ixt (v := .ref ka) sq rfl ?_
      exact ⟨ka, rfl, ⟨_, SqT.of h2⟩, fin⟩
    · have c' : wd = [] := not_dec' c
      have ew : wpart wd = [] := by unfold wpart; rw [if_pos c']
      rw [ew] at fin
      walk_at "rd"
      refine i_ixt (v := .str (S g)) sq rfl ?_
      walk_at "rd"
      refine i_adds (by simp; omega) ?_
      walk_at "rd"
      refine i_adds (by simp; omega) ?_
      walk_at "rd"
      refine i_ixt (v := .ref ka) sq rfl ?_
      exact ⟨ka, rfl, ⟨_, SqT.of h2⟩, fin⟩
end
/-! ## 21. A tree's state -/
def DictAt (H : Hp) (d : Addr) (ss : List (Tx × Nat)) : Prop := ∃ kvs : List (L2.Key × V), H d = some (.dK kvs) ∧ ∀ l : Tx, valV kvs (Sum.inr (S l)) = (startOf ss l).map fun (s : Nat) => V.int (s : Int)
def spState (n : Nat) : Sp := fun vs H Q _ => ∃ (d a r : Addr) (M : Mac) (t : T), vs = [.ref d, .ref a, .ref r] ∧ DictAt H d M.starts ∧ StepsAt H a M.steps ∧ TreeAt H r t ∧ M.Ok ∧ t.Ok ∧ t.nodes ≤ n ∧ Q (.int (t.st M : Int)) H
abbrev NState : List Str := ["_law_starts", "_law_steps", "_law_tree_here", "_law_label_here", "_law_state_here", "_law_kid"]
theorem scState : FnScope NState ["_law_starts", "_law_steps", "_law_tree_here"] (defScope sState) := ⟨rfl, rfl, rfl, by decide +kernel, rfl, by decide +kernel, by decide +kernel⟩
theorem row_get {M : Mac} (h : M.Ok) {p : Nat} (hp : p < M.n) : ∃ row, M.steps[p]? = some row ∧ row.length = M.n ∧ ∀ q, q < M.n → row[q]? = some (sp M.steps p q) := by
  have hr : M.steps[p]? = some M.steps[p] := List.getElem?_eq_getElem hp
  obtain ⟨h1, h2⟩ := h.row _ (List.getElem_mem hp)
  refine ⟨M.steps[p], hr, h1, fun q hq => ?_⟩
  have hq' : q < M.steps[p].length := by rw [h1]; exact hq
  have e : M.steps.getD p [] = M.steps[p] := by simp [List.getD_eq_getElem?_getD, hp]
  unfold sp
  rw [e, List.getD_eq_getElem?_getD, List.getElem?_eq_getElem hq']
  rfl
/-- steps[p][q], read in the heap -/
theorem steps_get {H : Hp} {a : Addr} {M : Mac} (h : M.Ok) (sA : StepsAt H a M.steps) {p q : Nat} (hp : p < M.n) (hq : q < M.n) :
    ∃ (rs : List Addr) (r : Addr) (row : List Nat), H a = some (.lst (rs.map V.ref)) ∧ atI (rs.map V.ref) (p : Int) = some (V.ref r) ∧ H r = some (.lst (nums row)) ∧ atI (nums row) (q : Int) = some (V.int (sp M.steps p q : Int)) := by
  obtain ⟨rs, h1, h2⟩ := sA
  obtain ⟨row, e1, e2, e3⟩ := row_get h hp
  obtain ⟨r, hr, hrow⟩ := paired_get' h2 e1
  exact ⟨rs, r, row, h1, atI_nat (map_get hr), hrow, atI_nat (map_get (e3 q hq))⟩
section
variable {P : Program} {w : World} {K : PySem.W.Frag} {mg : Str → Option Value} {base : Heap} {C : Addr}
def rGet2 (a : Addr) (y z : V) (H : Hp) (Q : VK) : Prop := ∃ o, DGet H a y o ∧ Q (o.getD z) H
theorem i_dget2 {td ty tx : TE} {σ : L2.St} {H : Hp} {Q : VK} (h : td σ H fun x H1 => ∃ a, x = .ref a ∧ IsD H1 a ∧ ty σ H1 fun y H2 => tx σ H2 fun z H3 => rGet2 a y z H3 Q) : tDGet2 td ty tx σ H Q := h
theorem ok_state {n : Nat} {f : Addr} {fd : FuncData} (F : Fun K "_law_state" "_law_state" sState f fd) (cal_state : Cal P w K mg base CX0 "_law_state" n ["_law_starts", "_law_steps", "_law_tree_here"] (spState n)) :
    FnOk P w K mg base CX0 (n + 1) f fd ["_law_starts", "_law_steps", "_law_tree_here"] (spState (n + 1)) := by
  refine F.ok scState (fun vs H Q E h => ?_) (fun cdv A outer s H vs Q E hr h => ?_)
  · obtain ⟨d, a, r, M, t, rfl, _⟩ := h
    rfl
  · obtain ⟨d, a, r, M, ⟨g, wd, ks⟩, rfl, ⟨kvs, hd, hkv⟩, hst, ⟨ka, as, h1, h2, h3⟩, hM, ok, hn, q⟩ := h
    obtain ⟨og, ow, ok2⟩ := ok
    have hN : (K39.T.node g wd ks).nodes = 1 + nodess ks := rfl
    refine ⟨_, (pss_cons (ps_set (i := 3) scState.nd rfl (Or.inl rfl) (pe_ix ix_tup (pv 2) pe_int (fun _ _ => rfl)))
    (pss_cons (ps_if (pt_cmpR op_ne (pe_ix ix_tup (pv 2) pe_int (fun _ _ => rfl)) (pes sl_lit4) (nomark _))
      (pss_one (ps_set (i := 3) scState.nd rfl (Or.inl rfl) (pe_op op_addS (pv 3) (pes sl_lit3))))
      pss_nil)
    (pss_cons (ps_set (i := 4) scState.nd rfl (Or.inl rfl) (pe_dget2 (hu_of hr) (pv 0) (pv 3) pe_int ⟨rfl, rfl, rfl, rfl⟩))
    (pss_cons (ps_for PassesOwn.never rfl (pi_tup (pe_ix ix_tup (pv 2) pe_int (fun _ _ => rfl))) (pg_name (i := 5) scState.nd rfl (Or.inl rfl))
      (pss_one (ps_set (i := 4) scState.nd rfl (Or.inl rfl) (pe_ix ix_list (pe_ix ix_list (pv 1) (pv 4) (fun _ _ => rfl)) (pcal cal_state (hr.mono (by omega)) (pa_cons (pv 0) (pa_cons (pv 1) (pa_cons (pv 5) pa_nil)))) (fun _ _ => rfl)))))
    (pss_one (ps_ret (pv 4))))))), ?_⟩
    have sq := SqT.of (K := K) h1
    have fin : ∀ D : Ends, D.rt = Q → FORW (gName 5) (tAsg (tOp (rIxL K) (tOp (rIxL K) (tVar 1) (tVar 4)) (tCall (spState n) [] E0 (tCons (tVar 0) (tCons (tVar 1) (tCons (tVar 5) tNil))))) (gName 4)) { D with nx := tRet (tVar 4) D }
        [some (.ref d), some (.ref a), some (.ref r), some (.str (S (label g wd))), some (.int (((startOf M.starts (label g wd)).getD 0 : Nat) : Int)), none] (Itt K ka) H := by
      intro D hD
      refine for_tup (K := K) (a := ka) (xs := as.map V.ref) (fun i σ H' => H' = H ∧ ∃ v5, σ = [some (.ref d), some (.ref a), some (.ref r), some (.str (S (label g wd))), some (.int (sts M ((startOf M.starts (label g wd)).getD 0) (ks.take i) : Int)), v5])
        ⟨rfl, none, rfl⟩ (fun i σ H' _ h => by rw [h.1]; exact SqT.of h2) ?_ ?_
      · rintro i x σ H' hi ⟨rfl, v5, rfl⟩
        obtain ⟨b, hb, rfl⟩ := get_map hi
        obtain ⟨t, ht, hat⟩ := trees_get h3 hb
        have hnt := nodes_get ht
        have hp := sts_lt hM (ks.take i) _ (start_lt hM (label g wd))
        obtain ⟨rs, rr, row, e1, e2, e3, e4⟩ := steps_get hM hst hp (st_lt hM t)
        walk_at "rd"
        refine i_ixl (.of e1) e2 ?_
        walk_at "rd"
        refine ⟨d, a, b, M, t, rfl, ⟨kvs, hd, hkv⟩, hst, hat, hM, oks_get ok2 ht, by omega, ?_⟩
        refine i_ixl (.of e3) e4 ?_
        refine i_gname ?_
        refine ⟨rfl, some (.ref b), ?_⟩
        rw [take_snoc ht, sts_snoc]
        rfl
      · rintro σ H' ⟨rfl, v5, rfl⟩
        have e : ks.take (as.map V.ref).length = ks := List.take_of_length_le (by rw [List.length_map, trees_len h3]; exact Nat.le_refl _)
        rw [e]
        walk_at "rd"
        rw [hD]
        exact q
    have look : ∀ (l : Tx) (Q' : VK), Q' (.int (((startOf M.starts l).getD 0 : Nat) : Int)) H → rGet2 d (.str (S l)) (.int 0) H Q' := fun l Q' hq => by
      refine ⟨_, DGet.k (k := Sum.inr (S l)) hd, ?_⟩
      rw [hkv]
      cases e : startOf M.starts l with
      | none => rw [e] at hq; exact hq
      | some z => rw [e] at hq; exact hq
    have hgl := og.1.2
    walk_at "rd"
    refine i_ixt (v := .str (S g)) sq rfl ?_
    walk_at "rd"
    refine i_ixt (v := .str (S wd)) sq rfl ?_
    walk_at "rd"
    rw [S_eq]
    refine ite2 (fun c => ?_) (fun c => ?_)
    · have c' : wd ≠ [] := not_dec c
      have el : label g wd = g ++ [58] := by unfold label; rw [if_neg c']
      walk_at "rd"
      refine i_adds (by simp; omega) ?_
      rw [← el]
      walk_at "rd"
      refine i_dget2 ?_
      walk_at "rd"
      refine ⟨d, rfl, .inl ⟨kvs, .inl hd⟩, ?_⟩
      walk_at "rd"
      refine look _ _ ?_
      walk_at "rd"
      refine i_ixt (v := .ref ka) sq rfl ?_
      exact ⟨ka, rfl, ⟨_, SqT.of h2⟩, fin _ rfl⟩
    · have c' : wd = [] := not_dec' c
      have el : label g wd = g := by unfold label; rw [if_pos c']
      rw [el] at fin
      walk_at "rd"
      refine i_dget2 ?_
      walk_at "rd"
      refine ⟨d, rfl, .inl ⟨kvs, .inl hd⟩, ?_⟩
      walk_at "rd"
      refine look _ _ ?_
      walk_at "rd"
      refine i_ixt (v := .ref ka) sq rfl ?_
      exact ⟨ka, rfl, ⟨_, SqT.of h2⟩, fin _ rfl⟩
end
/-! ## 22. Trees -/
def spTree (K : PySem.W.Frag) : Sp := fun vs H Q _ => ∃ (a : Addr) (ns : List Int) (k many : Int) (aL : Addr) (ls : List Tx), vs = [.ref a, .int k, .int many, .ref aL] ∧ SqL K H a (ns.map V.int) ∧ 0 ≤ k ∧ k ≤ 50000 ∧ 1 ≤ many ∧ many ≤ 9 ∧
  H aL = some (.lst (txts ls)) ∧ ls ≠ [] ∧ ls.length ≤ 100 ∧ (∀ l ∈ ls, LabOk l) ∧ ∀ (r : Addr) (H' : Hp) (t : K39.T), Same H H' → TreeAt H' r t → t.Ok → t.nodes ≤ 9 → Q (.ref r) H'
abbrev NTree : List Str := ["_law_script", "_law_k", "_law_many", "_law_labels_here", "_law_made", "_law_j", "_law_label_here", "_law_keep", "_law_word_here"]
theorem scTree : FnScope NTree ["_law_script", "_law_k", "_law_many", "_law_labels_here"] (defScope sTree) := ⟨rfl, rfl, rfl, by decide +kernel, rfl, by decide +kernel, by decide +kernel⟩
theorem txts_at {ls : List Tx} {i : Int} (h0 : 0 ≤ i) (h1 : i < (ls.length : Int)) : ∃ l, l ∈ ls ∧ atI (txts ls) i = some (.str (S l)) := by
  obtain ⟨n, rfl⟩ := Int.eq_ofNat_of_zero_le h0
  have hn : n < ls.length := by omega
  exact ⟨ls[n], List.getElem_mem hn, atI_nat (map_get (List.getElem?_eq_getElem hn))⟩
theorem at_last {α : Type} {xs : List α} {x : α} (h : xs.getLast? = some x) : atI xs (-1) = some x := by
  obtain ⟨ys, e⟩ := List.getLast?_eq_some_iff.mp h
  rw [e]
  exact atI_last ys x
theorem cut_last (g : Tx) (c : Nat) : cutS (S (g ++ [c])) none (some (-1)) = S g := by
  rw [S_cut]
  have e : HT.sIx (g ++ [c]).length (g ++ [c]).length (some (-1)) = g.length := by
    unfold HT.sIx
    simp only [List.length_append, List.length_cons, List.length_nil]
    rw [if_pos (by decide)]
    omega
  rw [e, HT.sIx_none]
  simp
theorem cutV_take {xs : List V} {j : Nat} (h : j ≤ xs.length) : cutV xs none (some (j : Int)) = xs.take j := by
  unfold cutV
  rw [HT.sIx_none, HT.sIx_nat, Nat.min_eq_left h]
  simp
theorem cutV_drop {xs : List V} {j : Nat} (h : j ≤ xs.length) : cutV xs (some (j : Int)) none = xs.drop j := by
  unfold cutV
  rw [HT.sIx_none, HT.sIx_nat, Nat.min_eq_left h]
  rw [← List.length_drop, List.take_length]
theorem nodess_append : ∀ a b : List K39.T, nodess (a ++ b) = nodess a + nodess b
  | [], b => by show nodess b = 0 + nodess b; omega
  | t :: r, b => by
    have := nodess_append r b
    show t.nodes + nodess (r ++ b) = t.nodes + nodess r + nodess b
    omega
theorem oks_append : ∀ {a b : List K39.T}, Oks a → Oks b → Oks (a ++ b)
  | [], b, _, h => h
  | t :: r, b, h, h2 => ⟨h.1, oks_append h.2 h2⟩
theorem oks_take : ∀ {a : List K39.T} (n : Nat), Oks a → Oks (a.take n)
  | _, 0, _ => trivial
  | [], _ + 1, _ => trivial
  | t :: r, n + 1, h => ⟨h.1, oks_take n h.2⟩
theorem oks_drop : ∀ {a : List K39.T} (n : Nat), Oks a → Oks (a.drop n)
  | _, 0, h => h
  | [], _ + 1, _ => trivial
  | t :: r, n + 1, h => oks_drop n h.2
section
variable {P : Program} {w : World} {K : PySem.W.Frag} {mg : Str → Option Value} {base : Heap} {C : Addr}
def rSlLN (K : PySem.W.Frag) (p : Addr) (xs : List V) (lo hi : Option Int) (H : Hp) (Q : VK) : Prop := ∀ q, H q = none → Q (.ref q) (upd H q (.lst (cutV xs lo hi)))
theorem i_slL {p : Addr} {xs : List V} {lo hi : Option Int} {H : Hp} {Q : VK} (h : SqL K H p xs) (q : ∀ r, H r = none → Q (.ref r) (upd H r (.lst (cutV xs lo hi)))) : rSlL K (.ref p) lo hi H Q := ⟨p, xs, rfl, h, q⟩
theorem i_slS {l : Tx} {lo hi : Option Int} {H : Hp} {Q : VK} (hz : l.length ≤ 100000) (q : Q (.str (cutS (S l) lo hi)) H) : rSlS (.str (S l)) lo hi H Q := ⟨S l, rfl, by rw [S_len]; exact small_line hz, q⟩
theorem i_cat {l b : Addr} {xs zs : List V} {H : Hp} {Q : VK} (h1 : H l = some (.lst xs)) (h2 : H b = some (.lst zs)) (hz : xs.length + zs.length ≤ 100000) (q : ∀ p, H p = none → Q (.ref p) (upd H p (.lst (xs ++ zs)))) : rCat (.ref l) (.ref b) H Q :=
  ⟨l, b, xs, zs, rfl, rfl, h1, h2, small_line hz, q⟩
theorem ok_tree {f : Addr} {fd : FuncData} (F : Fun K "_law_tree" "_law_tree" sTree f fd) (T : Txt K mg C)
    (cal_draw : Cal P w K mg base CX0 "_law_draw" 1 ["_law_script", "_law_k", "_law_many"] (spDraw K)) (cal_word : Cal P w K mg base CX0 "_law_word" 1 ["_law_number"] spWord) :
    FnOk P w K mg base CX0 2 f fd ["_law_script", "_law_k", "_law_many", "_law_labels_here"] (spTree K) := by
  refine F.ok scTree (fun vs H Q E h => ?_) (fun cdv A outer s H vs Q E hr h => ?_)
  · obtain ⟨a, ns, k, many, aL, ls, rfl, _⟩ := h
    rfl
  · obtain ⟨a, ns, k, many, aL, ls, rfl, hS, k0, k1, m1, m9, hL, lne, l100, lok, q⟩ := h
    refine ⟨_, (pss_cons (ps_set (i := 4) scTree.nd rfl (Or.inl rfl) (pe_lst pa_nil))
    (pss_cons (ps_for PassesOwn.never rfl (pi_range1 rfl T.range (pa_cons (pv 2) pa_nil)) (pg_name (i := 5) scTree.nd rfl (Or.inl rfl))
      (pss_cons (ps_set (i := 6) scTree.nd rfl (Or.inl rfl) (pe_ix ix_list (pv 3) (pcal cal_draw (hr.mono (by decide)) (pa_cons (pv 0) (pa_cons (pe_op op_add (pv 1) (pe_op op_mul pe_int (pv 5))) (pa_cons (pe_callB call_lenQ (by rfl) T.len (by decide +kernel) (pa_cons (pv 3) pa_nil)) pa_nil)))) (fun _ _ => rfl)))
    (pss_cons (ps_set (i := 7) scTree.nd rfl (Or.inl rfl) (pe_callB (call_maxI rfl) (by rfl) T.max (by decide +kernel) (pa_cons pe_int (pa_cons (pe_op op_sub (pe_callB call_lenQ (by rfl) T.len (by decide +kernel) (pa_cons (pv 4) pa_nil)) (pcal cal_draw (hr.mono (by decide)) (pa_cons (pv 0) (pa_cons (pe_op op_add (pe_op op_add (pv 1) (pe_op op_mul pe_int (pv 5))) pe_int) (pa_cons pe_int pa_nil))))) pa_nil))))
    (pss_cons (ps_if (pt_cmpR op_eq (pv 5) (pe_op op_sub (pv 2) pe_int) (nomark _))
      (pss_one (ps_set (i := 7) scTree.nd rfl (Or.inl rfl) pe_int))
      pss_nil)
    (pss_cons (ps_set (i := 8) scTree.nd rfl (Or.inl rfl) (pes sl_lit4))
    (pss_cons (ps_if (pt_cmpR op_eq (pe_ix ix_str (pv 6) (pe_un un_neg pe_int) (fun _ _ => rfl)) (pes sl_lit3) (nomark _))
      (pss_cons (ps_set (i := 8) scTree.nd rfl (Or.inl rfl) (pcal cal_word (hr.mono (by decide)) (pa_cons (pcal cal_draw (hr.mono (by decide)) (pa_cons (pv 0) (pa_cons (pe_op op_add (pe_op op_add (pv 1) (pv 5)) pe_int) (pa_cons pe_int pa_nil)))) pa_nil)))
    (pss_one (ps_set (i := 6) scTree.nd rfl (Or.inl rfl) (pe_slice sl_str (pv 6) po_none (po_some (pe_un un_neg pe_int))))))
      pss_nil)
    (pss_one (ps_set (i := 4) scTree.nd rfl (Or.inl rfl) (pe_op op_cat (pe_slice sl_list (pv 4) po_none (po_some (pv 7))) (pe_lst (pa_cons (pe_tup (pa_cons (pv 6) (pa_cons (pv 8) (pa_cons (pe_callTy call_tupleOf (by rfl) T.tuple (by decide +kernel) (pa_cons (pe_slice sl_list (pv 4) (po_some (pv 7)) po_none) pa_nil)) pa_nil)))) pa_nil)))))))))))
    (pss_one (ps_ret (pe_ix ix_list (pv 4) pe_int (fun _ _ => rfl)))))), ?_⟩
    have lpos : 0 < ls.length := by cases ls with | nil => exact absurd rfl lne | cons => simp
    walk_at "rd"
    refine ⟨Nat.zero_le _, fun p0 hp0 => ?_⟩
    walk_at "rd"
    refine ⟨many, rfl, by omega, by omega, for_range (n := many.toNat) (fun i σ H' => ∃ (p : Addr) (as : List Addr) (ts : List K39.T) (v5 v6 v7 v8 : Option V), σ = [some (.ref a), some (.int k), some (.int many), some (.ref aL), some (.ref p), v5, v6, v7, v8] ∧
      Same H H' ∧ H' p = some (.lst (as.map V.ref)) ∧ TreesAt H' as ts ∧ Oks ts ∧ nodess ts ≤ i ∧ (0 < i → as ≠ [])) ⟨p0, [], [], none, none, none, none, rfl, same_new hp0 _, upd_same, trivial, trivial, Nat.le_refl 0, fun h => absurd h (Nat.lt_irrefl 0)⟩ ?_ ?_⟩
    · rintro i σ H' hi ⟨p, as, ts, v5, v6, v7, v8, rfl, sm, hp, hts, okT, hn, _⟩
      have hlen := trees_len hts
      have hkl := kids_le ts
      have hL' := sm _ _ hL
      -- the last statement
      have fin : ∀ (D : Ends) (H2 : Hp) (g wd : Tx) (j : Nat) (l5 : V), Same H' H2 → TagOk g → WordOk wd → j ≤ as.length →
          (∀ (q : Addr) (H3 : Hp) (as' : List Addr) (ts' : List K39.T), Same H' H3 → H3 q = some (.lst (as'.map V.ref)) → TreesAt H3 as' ts' → Oks ts' → nodess ts' ≤ i + 1 → as' ≠ [] →
            D.nx [some (.ref a), some (.int k), some (.int many), some (.ref aL), some (.ref q), some l5, some (.str (S g)), some (.int (j : Int)), some (.str (S wd))] H3) →
          tAsg (tOp rCat (tSl (rSlL K) (tVar 4) tNoPart (tPart (tVar 7))) (tLst (tCons (tTup (tCons (tVar 6) (tCons (tVar 8) (tCons (tCB (rTupleOf K) (tCons (tSl (rSlL K) (tVar 4) (tPart (tVar 7)) tNoPart) tNil)) tNil)))) tNil))) (gName 4) D
            [some (.ref a), some (.int k), some (.int many), some (.ref aL), some (.ref p), some l5, some (.str (S g)), some (.int (j : Int)), some (.str (S wd))] H2 := by
        intro D H2 g wd j l5 s2 og ow hj k3
        have hp2 := s2 _ _ hp
        walk_at "rd"
        refine i_slL (.of hp2) fun q1 hq1 => ?_
        rw [cutV_take (by rw [List.length_map]; exact hj)]
        have n1 : q1 ≠ p := (ne_of_none hp2 hq1).symm
        walk_at "rd"
        refine i_slL (xs := as.map V.ref) (.of (by rw [upd_ne n1.symm]; exact hp2)) fun q2 hq2 => ?_
        rw [cutV_drop (by rw [List.length_map]; exact hj)]
        walk_at "rd"
        refine i_tupleOf (.of upd_same) fun q3 hq3 => ?_
        walk_at "rd"
        refine ⟨small_line (by simp), fun q4 hq4 => ?_⟩
        walk_at "rd"
        refine ⟨small_line (by simp), fun q5 hq5 => ?_⟩
        have s3 : Same H2 (upd H2 q1 (.lst ((as.map V.ref).take j))) := same_new hq1 _
        have s4 := s3.trans (same_new hq2 (.lst ((as.map V.ref).drop j)))
        have s5 := s4.trans (same_new hq3 (.tup ((as.map V.ref).drop j)))
        have s6 := s5.trans (same_new hq4 (.tup [.str (S g), .str (S wd), .ref q3]))
        have s7 := s6.trans (same_new hq5 (.lst [.ref q4]))
        have e1 := (((same_new hq2 (.lst ((as.map V.ref).drop j))).trans (same_new hq3 (.tup ((as.map V.ref).drop j)))).trans (same_new hq4 (.tup [.str (S g), .str (S wd), .ref q3]))).trans (same_new hq5 (.lst [.ref q4])) q1 _ upd_same
        have e3 := ((same_new hq4 (.tup [.str (S g), .str (S wd), .ref q3])).trans (same_new hq5 (.lst [.ref q4]))) q3 _ upd_same
        have e4 := (same_new hq5 (.lst [.ref q4])) q4 _ upd_same
        refine i_cat e1 upd_same (by rw [List.length_take, List.length_map]; simp; omega) fun q6 hq6 => ?_
        walk_at "rd"
        have s8 := s7.trans (same_new hq6 (.lst ((as.map V.ref).take j ++ [.ref q4])))
        have s9 := s2.trans s8
        refine k3 q6 _ (as.take j ++ [q4]) (ts.take j ++ [.node g wd (ts.drop j)]) s9 (by rw [upd_same]; simp) ?_ (oks_append (oks_take j okT) (show Oks [K39.T.node g wd (ts.drop j)] from ⟨⟨og, ow, oks_drop j okT⟩, trivial⟩)) ?_ (by simp)
        · refine trees_append (trees_take j (TreesAt.mono s9 hts)) ⟨⟨q3, as.drop j, ?_, ?_, trees_drop j (TreesAt.mono s9 hts)⟩, trivial⟩
          · exact (same_new hq6 _) _ _ e4
          · rw [List.map_drop]; exact (same_new hq6 _) _ _ e3
        · have e : nodess (ts.take j) + nodess (ts.drop j) = nodess ts := by rw [← nodess_append, List.take_append_drop]
          rw [nodess_append]
          show nodess (ts.take j) + (1 + nodess (ts.drop j) + 0) ≤ i + 1
          omega
      walk_at "rd"
      refine i_lenl (.of hL') ?_
      rw [List.length_map]
      walk_at "rd"
      refine ⟨a, ns, _, _, rfl, sm.seq hS, by omega, by omega, by omega, fun r r0 r1 => ?_⟩
      obtain ⟨l, hl, hat⟩ := txts_at (ls := ls) r0 r1
      have hlok := lok l hl
      refine i_ixl (.of hL') hat ?_
      walk_at "rd"
      refine i_lenl (.of hp) ?_
      rw [List.length_map]
      walk_at "rd"
      refine ⟨a, ns, _, _, rfl, sm.seq hS, by omega, by omega, by decide, fun r2 r20 r21 => ?_⟩
      walk_at "rd"
      obtain ⟨j, hj, ej⟩ : ∃ j : Nat, j ≤ as.length ∧ (if (as.length : Int) - r2 > 0 then (as.length : Int) - r2 else 0) = (j : Int) := by
        by_cases c : (as.length : Int) - r2 > 0
        · exact ⟨((as.length : Int) - r2).toNat, by omega, by rw [if_pos c]; omega⟩
        · exact ⟨0, Nat.zero_le _, by rw [if_neg c]; rfl⟩
      rw [ej]
      have nxt : ∀ (g wd : Tx) (l5 : V) (jj : Nat) (q : Addr) (H3 : Hp) (as' : List Addr) (ts' : List K39.T), Same H' H3 → H3 q = some (.lst (as'.map V.ref)) → TreesAt H3 as' ts' → Oks ts' → nodess ts' ≤ i + 1 → as' ≠ [] →
          ∃ (p : Addr) (as : List Addr) (ts : List K39.T) (v5 v6 v7 v8 : Option V), ([some (.ref a), some (.int k), some (.int many), some (.ref aL), some (.ref q), some l5, some (.str (S g)), some (.int (jj : Int)), some (.str (S wd))] : L2.St) = [some (.ref a), some (.int k), some (.int many), some (.ref aL), some (.ref p), v5, v6, v7, v8] ∧
            Same H H3 ∧ H3 p = some (.lst (as.map V.ref)) ∧ TreesAt H3 as ts ∧ Oks ts ∧ nodess ts ≤ i + 1 ∧ (0 < i + 1 → as ≠ []) :=
        fun g wd l5 jj q H3 as' ts' s3 h1 h2 h3 h4 h5 => ⟨q, as', ts', _, _, _, _, rfl, sm.trans s3, h1, h2, h3, h4, fun _ => h5⟩
      -- behind «keep»
      have rest : ∀ (D : Ends) (jj : Nat) (l5 : V), l5 = .int (0 + (i : Int)) → jj ≤ as.length →
          (∀ (g wd : Tx) (q : Addr) (H3 : Hp) (as' : List Addr) (ts' : List K39.T), Same H' H3 → H3 q = some (.lst (as'.map V.ref)) → TreesAt H3 as' ts' → Oks ts' → nodess ts' ≤ i + 1 → as' ≠ [] →
            D.nx [some (.ref a), some (.int k), some (.int many), some (.ref aL), some (.ref q), some l5, some (.str (S g)), some (.int (jj : Int)), some (.str (S wd))] H3) →
          rIxS (.str (S l)) (.int (-1)) H' fun x H1 => tC (.str (S [58])) [some (.ref a), some (.int k), some (.int many), some (.ref aL), some (.ref p), some l5, some (.str (S l)), some (.int (jj : Int)), some (.str (S []))] H1 fun y H2 => rEq x y H2 fun x H' => ∃ k_1, x = .bl k_1 ∧
            if k_1 = true then
              tSeq (tAsg (tCall spWord [] E0 (tCons (tCall (spDraw K) [] E0 (tCons (tVar 0) (tCons (tOp (rI0 fun i j => .int (i + j)) (tOp (rI0 fun i j => .int (i + j)) (tVar 1) (tVar 5)) (tC (.int 5))) (tCons (tC (.int 1000)) tNil)))) tNil)) (gName 8))
                (tAsg (tSl rSlS (tVar 6) tNoPart (tPart (tUn (rU fun i => .int (-i)) (tC (.int 1))))) (gName 6))
                { D with nx := tAsg (tOp rCat (tSl (rSlL K) (tVar 4) tNoPart (tPart (tVar 7))) (tLst (tCons (tTup (tCons (tVar 6) (tCons (tVar 8) (tCons (tCB (rTupleOf K) (tCons (tSl (rSlL K) (tVar 4) (tPart (tVar 7)) tNoPart) tNil)) tNil)))) tNil))) (gName 4) D }
                [some (.ref a), some (.int k), some (.int many), some (.ref aL), some (.ref p), some l5, some (.str (S l)), some (.int (jj : Int)), some (.str (S []))] H'
            else tAsg (tOp rCat (tSl (rSlL K) (tVar 4) tNoPart (tPart (tVar 7))) (tLst (tCons (tTup (tCons (tVar 6) (tCons (tVar 8) (tCons (tCB (rTupleOf K) (tCons (tSl (rSlL K) (tVar 4) (tPart (tVar 7)) tNoPart) tNil)) tNil)))) tNil))) (gName 4) D
                [some (.ref a), some (.int k), some (.int many), some (.ref aL), some (.ref p), some l5, some (.str (S l)), some (.int (jj : Int)), some (.str (S []))] H' := by
        intro D jj l5 e5 hjj k3
        subst e5
        obtain ⟨g, og, hg⟩ := hlok
        have hgl := og.1.2
        rcases hg with rfl | rfl
        · obtain ⟨c, hc⟩ : ∃ c, l.getLast? = some c := by
            cases e : l.getLast? with
            | none => exact absurd (List.getLast?_eq_none_iff.mp e) og.1.1
            | some c => exact ⟨c, rfl⟩
          refine i_ixs (small_line (by omega)) (at_last hc) ?_
          walk_at "rd"
          rw [S_eq]
          have hne : ¬ ([c] : Tx) = [58] := fun e => (low_ne (og.2 c (List.mem_of_getLast? hc))).1 (by simpa using e)
          rw [decide_eq_false hne]
          refine iteF ?_
          exact fin D H' l [] jj _ (Same.refl H') og ⟨by simp, fun _ h => (by cases h)⟩ hjj (k3 l [])
        · refine i_ixs (small_line (by simp; omega)) (atI_last g 58) ?_
          walk_at "rd"
          rw [S_eq, decide_eq_true rfl]
          refine iteT ?_
          walk_at "rd"
          refine ⟨a, ns, _, _, rfl, sm.seq hS, by omega, by omega, by decide, fun r3 r30 r31 => ?_⟩
          refine ⟨r3, rfl, r30, fun wd H2 ow _ s2 => ?_⟩
          walk_at "rd"
          refine i_slS (by simp; omega) ?_
          rw [cut_last]
          refine i_gname ?_
          exact fin D H2 g wd jj _ s2 og ow hjj (k3 g wd)
      refine ite2 (fun c => ?_) (fun c => ?_)
      · walk_at "rd"
        exact rest _ 0 _ rfl (Nat.zero_le _) (fun g wd q H3 as' ts' h1 h2 h3 h4 h5 h6 => nxt g wd _ 0 q H3 as' ts' h1 h2 h3 h4 h5 h6)
      · walk_at "rd"
        exact rest _ j _ rfl hj (fun g wd q H3 as' ts' h1 h2 h3 h4 h5 h6 => nxt g wd _ j q H3 as' ts' h1 h2 h3 h4 h5 h6)
    · rintro σ H' ⟨p, as, ts, v5, v6, v7, v8, rfl, sm, hp, hts, okT, hn, ne⟩
      walk_at "rd"
      cases as with
      | nil => exact absurd rfl (ne (by omega))
      | cons b as =>
        obtain ⟨t, ht, hat⟩ := trees_get (i := 0) hts rfl
        refine i_ixl (v := .ref b) (.of hp) (show atI ((b :: as).map V.ref) ((0 : Nat) : Int) = some (V.ref b) from atI_nat rfl) ?_
        have hnt := nodes_get ht
        exact q b H' t sm hat (oks_get okT ht) (by omega)
end
/-! ## 24. The machine -/
def NewMac (H H' : Hp) (m : Addr) (M : Mac) : Prop := ∃ (a1 a2 a3 : Addr) (rs : List Addr), H' m = some (.tup [.ref a1, .ref a2, .ref a3]) ∧ H a1 = none ∧ H a2 = none ∧ H a3 = none ∧ (∀ r ∈ rs, H r = none) ∧
  StartsAt H' a1 M.starts ∧ H' a2 = some (.lst (rs.map V.ref)) ∧ Paired (fun r (row : List Nat) => H' r = some (.lst (nums row))) rs M.steps ∧ H' a3 = some (.lst (nums M.good))
theorem NewMac.at {H H' : Hp} {m : Addr} {M : Mac} (h : NewMac H H' m M) : MacAt H' m M := by
  obtain ⟨a1, a2, a3, rs, h0, _, _, _, _, h1, h2, h3, h4⟩ := h
  exact ⟨a1, a2, a3, h0, h1, ⟨rs, h2, h3⟩, h4⟩
def spMachine (K : PySem.W.Frag) : Sp := fun vs H Q _ => ∃ (a : Addr) (ns : List Int) (k : Int) (size : Nat) (aL : Addr) (ls : List Tx), vs = [.ref a, .int k, .int (size : Int), .ref aL] ∧ SqL K H a (ns.map V.int) ∧ 0 ≤ k ∧ k ≤ 1000 ∧ 1 ≤ size ∧ size ≤ 6 ∧
  H aL = some (.lst (txts ls)) ∧ ls.length ≤ 4 ∧ (∀ l ∈ ls, LabOk l) ∧ ls.Nodup ∧ ∀ (m : Addr) (H' : Hp) (M : Mac), Same H H' → NewMac H H' m M → M.Ok → M.n = size → M.good.length ≤ 10 → Q (.ref m) H'
abbrev NMachine : List Str := ["_law_script", "_law_k", "_law_size", "_law_labels_here", "_law_starts", "_law_j", "_law_state_here", "_law_steps", "_law_p", "_law_q", "_law_good"]
theorem scMachine : FnScope NMachine ["_law_script", "_law_k", "_law_size", "_law_labels_here"] (defScope sMachine) := ⟨rfl, rfl, rfl, by decide +kernel, rfl, by decide +kernel, by decide +kernel⟩
/-- a square of states, its first row and column dead -/
structure Sq (n : Nat) (R : List (List Nat)) : Prop where
  len : R.length = n
  row : ∀ r ∈ R, r.length = n ∧ ∀ q ∈ r, q < n
  dead1 : ∀ q, sp R 0 q = 0
  dead2 : ∀ p, sp R p 0 = 0
theorem sp_zero (n : Nat) (p q : Nat) : sp (List.replicate n (List.replicate n 0)) p q = 0 := by
  unfold sp
  simp only [List.getD_eq_getElem?_getD, List.getElem?_replicate]
  split
  · simp only [Option.getD_some, List.getElem?_replicate]
    split <;> rfl
  · rfl
theorem sq_zero {n : Nat} (h : 1 ≤ n) : Sq n (List.replicate n (List.replicate n 0)) :=
  ⟨by simp, fun r hr => by
    rw [(List.mem_replicate.mp hr).2]
    refine ⟨by simp, fun q hq => ?_⟩
    rw [(List.mem_replicate.mp hq).2]; exact h, fun q => sp_zero n 0 q, fun p => sp_zero n p 0⟩
theorem sp_set (R : List (List Nat)) {p a b : Nat} {row : List Nat} (hp : p < R.length) : sp (R.set p row) a b = if a = p then row.getD b 0 else sp R a b := by
  unfold sp
  simp only [List.getD_eq_getElem?_getD, List.getElem?_set]
  by_cases h : p = a
  · subst h; simp [hp]
  · have h' : ¬ a = p := fun e => h e.symm
    simp [h, h']
theorem sq_set {n p q r : Nat} {R : List (List Nat)} (h : Sq n R) (hp : 1 ≤ p) (hp2 : p < n) (hq : 1 ≤ q) (hr : r < n) {row : List Nat} (hrow : R[p]? = some row) : Sq n (R.set p (row.set q r)) := by
  have hpl : p < R.length := by rw [h.len]; exact hp2
  have hm : row ∈ R := List.mem_of_getElem? hrow
  obtain ⟨h1, h2⟩ := h.row row hm
  have hg : ∀ b, row.getD b 0 = sp R p b := fun b => by
    unfold sp
    simp only [List.getD_eq_getElem?_getD, hrow, Option.getD_some]
  refine ⟨by rw [List.length_set]; exact h.len, fun x hx => ?_, fun b => ?_, fun a => ?_⟩
  · rcases List.mem_or_eq_of_mem_set hx with hx | rfl
    · exact h.row x hx
    · refine ⟨by rw [List.length_set]; exact h1, fun y hy => ?_⟩
      rcases List.mem_or_eq_of_mem_set hy with hy | rfl
      · exact h2 y hy
      · exact hr
  · rw [sp_set R hpl, if_neg (by omega)]; exact h.dead1 b
  · rw [sp_set R hpl]
    split
    · have e : (row.set q r).getD 0 0 = row.getD 0 0 := by
        simp only [List.getD_eq_getElem?_getD, List.getElem?_set]
        rw [if_neg (by omega)]
      rw [e, hg, h.dead2]
    · exact h.dead2 a
theorem paired_upd {H : Hp} {r0 : Addr} {row0 : List Nat} : ∀ {rs : List Addr} {R : List (List Nat)} {p : Nat}, Paired (fun r (row : List Nat) => H r = some (.lst (nums row))) rs R → rs.Nodup → rs[p]? = some r0 →
    Paired (fun r (row : List Nat) => (upd H r0 (.lst (nums row0))) r = some (.lst (nums row))) rs (R.set p row0)
  | _, _, p, .nil, _, e => by simp at e
  | r :: rs, row :: R, 0, .cons h t, nd, e => by
    simp at e
    subst e
    rw [List.nodup_cons] at nd
    refine .cons upd_same ?_
    exact paired_with t fun b y hb q => by rw [upd_ne (fun z => nd.1 (by rw [← z]; exact hb))]; exact q
  | r :: rs, row :: R, p + 1, .cons h t, nd, e => by
    simp at e
    rw [List.nodup_cons] at nd
    have hm : r0 ∈ rs := List.mem_of_getElem? e
    exact .cons (by rw [upd_ne (fun z => nd.1 (by rw [z]; exact hm))]; exact h) (paired_upd t nd.2 e)
where
  paired_with {α β : Type} {F G : α → β → Prop} : ∀ {as : List α} {bs : List β}, Paired F as bs → (∀ a b, a ∈ as → F a b → G a b) → Paired G as bs
    | _, _, .nil, _ => .nil
    | _, _, .cons h t, f => .cons (f _ _ List.mem_cons_self h) (paired_with t fun a b m => f a b (List.mem_cons_of_mem _ m))
theorem blkOk_nf {N : List Str} {sc scope : Scope} {own : List (Str × Nat)} (h1 : scope.kind = .function) (h2 : ∀ y ∈ scope.names, scope.names.lookup y.1 = some y.2) (h3 : ∀ p ∈ own, N[p.2]? = some p.1) (h4 : ∀ y ∈ scope.names, y.2 ≠ .free)
    (h5 : ∀ y ∈ scope.names, y.2 = .local ∨ y.2 = .cell → y.1 ∈ own.map (·.1) ∨ y.1 ∉ N) : BlkOk N sc scope own := ⟨h1, h2, h3, fun y hy e => absurd e (h4 y hy), h5⟩
theorem nums_set (row : List Nat) (q r : Nat) : (nums row).set q (V.int (r : Int)) = nums (row.set q r) := by
  unfold nums
  rw [List.map_set]
theorem paired_starts {H : Hp} : ∀ {ys : List Pr}, (∀ b ∈ ys, H b.1 = some (.tup [.str (S b.2.1), .int (b.2.2 : Int)])) → Paired (fun t (p : Tx × Nat) => H t = some (.tup [.str (S p.1), .int (p.2 : Int)])) (ys.map (·.1)) (ys.map (·.2))
  | [], _ => .nil
  | y :: r, h => .cons (h y List.mem_cons_self) (paired_starts fun b hb => h b (List.mem_cons_of_mem _ hb))
section
variable {P : Program} {w : World} {K : PySem.W.Frag} {mg : Str → Option Value} {base : Heap} {C : Addr}
theorem i_gsub {to ti : TE} {t : TSet} {v : V} {σ : L2.St} {H : Hp} {Q : L2.St → Hp → Prop} (h : to σ H fun o H1 => ti σ H1 fun i H2 => t o i v H2 fun H3 => Q σ H3) : gSub to ti t v σ H Q := h
theorem i_setL {p : Addr} {xs : List V} {j : Nat} {v : V} {H : Hp} {Q : Hp → Prop} (h : H p = some (.lst xs)) (hj : j < xs.length) (q : Q (upd H p (.lst (xs.set j v)))) : rSetL (.ref p) (.int (j : Int)) v H Q :=
  ⟨p, xs, _, j, rfl, rfl, h, by unfold ixN; rw [if_pos (by omega), if_pos (by omega)]; simp, q⟩
theorem ok_machine {f : Addr} {fd : FuncData} (F : Fun K "_law_machine" "_law_machine" sMachine f fd) (T : Txt K mg C) (cal_draw : Cal P w K mg base CX0 "_law_draw" 1 ["_law_script", "_law_k", "_law_many"] (spDraw K)) :
    FnOk P w K mg base CX0 2 f fd ["_law_script", "_law_k", "_law_size", "_law_labels_here"] (spMachine K) := by
  refine F.ok scMachine (fun vs H Q E h => ?_) (fun cdv A outer s H vs Q E hr h => ?_)
  · obtain ⟨a, ns, k, size, aL, ls, rfl, _⟩ := h
    rfl
  · obtain ⟨a, ns, k, n, aL, ls, rfl, hS, k0, k1, n1, n6, hL, l4, lok, lnd, q⟩ := h
    refine ⟨_, (pss_cons (ps_set (i := 4) scMachine.nd rfl (Or.inl rfl) (pe_lst pa_nil))
    (pss_cons (ps_for PassesOwn.never rfl (pi_range1 rfl T.range (pa_cons (pe_callB call_lenQ (by rfl) T.len (by decide +kernel) (pa_cons (pv 3) pa_nil)) pa_nil)) (pg_name (i := 5) scMachine.nd rfl (Or.inl rfl))
      (pss_cons (ps_set (i := 6) scMachine.nd rfl (Or.inl rfl) (pcal cal_draw (hr.mono (by decide)) (pa_cons (pv 0) (pa_cons (pe_op op_add (pv 1) (pv 5)) (pa_cons (pv 2) pa_nil)))))
    (pss_one (ps_if (pt_cmpR op_gt (pv 6) pe_int (nomark _))
      (pss_one (ps_expr (pe_bm PySem.F.plainAttrs_list PySem.F.slot_list_append PySem.F.type_list_append mt_append (pv 4) (pa_cons (pe_tup (pa_cons (pe_ix ix_list (pv 3) (pv 5) (fun _ _ => rfl)) (pa_cons (pv 6) pa_nil))) pa_nil))))
      pss_nil))))
    (pss_cons (ps_set (i := 1) scMachine.nd rfl (Or.inr rfl) (pe_op op_add (pv 1) (pe_callB call_lenQ (by rfl) T.len (by decide +kernel) (pa_cons (pv 3) pa_nil))))
    (pss_cons (ps_setLc (i := 7) (own := [("_law_p", 8)]) (g := gName 8) (tt := tYes) rfl scMachine.nd rfl rfl (sw_true rfl rfl rfl (by decide +kernel)) (pi_range1 rfl T.range (pa_cons (pv 2) pa_nil)) (blkOk_by (own := [("_law_p", 8)]) (N := NMachine) (sc := defScope sMachine) (by decide +kernel)) (fun _ _ _ _ _ => pg_name (i := 8) scMachine.nd rfl (Or.inl rfl)) (fun _ _ _ _ _ => pts_nil) (fun _ _ _ _ _ => (pe_lc (own := [("_law_q", 9)]) (g := gName 9) (tt := tYes) rfl scMachine.nd (pi_range1 rfl T.range (pa_cons (pv 2) pa_nil)) (blkOk_nf (own := [("_law_q", 9)]) (N := NMachine) rfl (by decide +kernel) (by decide +kernel) (by decide +kernel) (by decide +kernel)) (fun _ _ _ _ _ => pg_name (i := 9) scMachine.nd rfl (Or.inl rfl)) (fun _ _ _ _ _ => pts_nil) (fun _ _ _ _ _ => pe_int))))
    (pss_cons (ps_for PassesOwn.never rfl (pi_range2 rfl T.range (pa_cons pe_int (pa_cons (pv 2) pa_nil))) (pg_name (i := 8) scMachine.nd rfl (Or.inl rfl))
      (pss_one (ps_for PassesOwn.never rfl (pi_range2 rfl T.range (pa_cons pe_int (pa_cons (pv 2) pa_nil))) (pg_name (i := 9) scMachine.nd rfl (Or.inl rfl))
      (pss_cons (ps_asg (pcal cal_draw (hr.mono (by decide)) (pa_cons (pv 0) (pa_cons (pv 1) (pa_cons (pv 2) pa_nil)))) (pg_sub (pe_ix ix_list (pv 7) (pv 8) (fun _ _ => rfl)) (pv 9) set_list))
    (pss_one (ps_set (i := 1) scMachine.nd rfl (Or.inr rfl) (pe_op op_add (pv 1) pe_int)))))))
    (pss_cons (ps_setLc (i := 10) (own := [("_law_state_here", 6)]) (g := gName 6) (tt := tTest (tOp rEq (tCall (spDraw K) [] E0 (tCons (tVar 0) (tCons (tOp (rI0 fun i j => .int (i + j)) (tVar 1) (tVar 6)) (tCons (tC (.int 2)) tNil)))) (tC (.int 1)))) rfl scMachine.nd rfl rfl (sw_true rfl rfl rfl (by decide +kernel)) (pi_range2 rfl T.range (pa_cons pe_int (pa_cons (pv 2) pa_nil))) (blkOk_by (own := [("_law_state_here", 6)]) (N := NMachine) (sc := defScope sMachine) (by decide +kernel)) (fun _ _ _ _ _ => pg_name (i := 6) scMachine.nd rfl (Or.inl rfl)) (fun _ _ _ _ _ => (pts_one (pt_cmpR op_eq (pcal cal_draw (hr.mono (by decide)) (pa_cons (pv 0) (pa_cons (pe_op op_add (pv 1) (pv 6)) (pa_cons pe_int pa_nil)))) pe_int (nomark _)))) (fun _ _ _ _ _ => (pv 6)))
    (pss_one (ps_ret (pe_tup (pa_cons (pe_callB (cr_sortedTI hr.units) (by rfl) T.sorted (by decide +kernel) (pa_cons (pv 4) pa_nil)) (pa_cons (pv 7) (pa_cons (pv 10) pa_nil)))))))))))), ?_⟩
    walk_at "rd"
    refine ⟨Nat.zero_le _, fun p0 hp0 => ?_⟩
    walk_at "rd"
    have hL0 : (upd H p0 (.lst [])) aL = some (.lst (txts ls)) := (same_new hp0 _) _ _ hL
    refine i_lenl (.of hL0) ?_
    rw [List.length_map]
    walk_at "rd"
    refine ⟨ls.length, rfl, by omega, by omega, for_range (n := ls.length) (fun i σ H' => ∃ (bs : List Pr) (v5 v6 : Option V), σ = [some (.ref a), some (.int k), some (.int (n : Int)), some (.ref aL), some (.ref p0), v5, v6, none, none, none, none] ∧ Same H H' ∧ H' p0 = some (.lst (bs.map fun b => V.ref b.1)) ∧
      (∀ b ∈ bs, H' b.1 = some (.tup [.str (S b.2.1), .int (b.2.2 : Int)])) ∧ (bs.map fun b => b.2.1).Sublist (ls.take i) ∧ (∀ b ∈ bs, 1 ≤ b.2.2 ∧ b.2.2 < n)) ⟨[], none, none, rfl, same_new hp0 _, upd_same, (fun _ h => by cases h), List.Sublist.refl _, (fun _ h => by cases h)⟩ ?_ ?_⟩
    · rintro i σ H' hi ⟨bs, v5, v6, rfl, sm, hp, hbs, sub, st⟩
      have hbl : bs.length ≤ ls.length := by
        have := sub.length_le
        rw [List.length_map] at this
        exact Nat.le_trans this (by rw [List.length_take]; omega)
      walk_at "rd"
      refine ⟨a, ns, _, _, rfl, sm.seq hS, by omega, by omega, by omega, fun r r0 r1 => ?_⟩
      walk_at "rd"
      refine ite2 (fun c => ?_) (fun c => ?_)
      · have c' := of_decide_eq_true c
        obtain ⟨z, rfl⟩ := Int.eq_ofNat_of_zero_le r0
        have hli : ls[i]? = some ls[i] := List.getElem?_eq_getElem hi
        walk_at "rd"
        refine i_ty hp ?_
        walk_at "rd"
        refine i_ixl (v := .str (S ls[i])) (.of (sm _ _ hL)) (at_of (j := i) (by omega) (map_get hli)) ?_
        walk_at "rd"
        refine ⟨small_line (by simp), fun t ht => ?_⟩
        walk_at "rd"
        have hp' : (upd H' t (.tup [.str (S ls[i]), .int (z : Int)])) p0 = some (.lst (bs.map fun b => V.ref b.1)) := (same_new ht _) _ _ hp
        refine i_app hp' (by rw [List.length_map]; omega) ?_
        walk_at "rd"
        have ntp : t ≠ p0 := (ne_of_none hp ht).symm
        refine ⟨bs ++ [(t, (ls[i], z))], _, _, rfl, smut (sm.trans (same_new ht _)) hp0 _, by rw [upd_same]; simp, fun b hb => ?_, ?_, fun b hb => ?_⟩
        · rcases List.mem_append.mp hb with hb | hb
          · have e := (same_new ht (.tup [.str (S ls[i]), .int (z : Int)])) _ _ (hbs b hb)
            rw [upd_ne (ne_of e hp' (by intro q; cases q))]
            exact e
          · rw [List.mem_singleton.mp hb]
            rw [upd_ne ntp, upd_same]
        · rw [List.map_append, take_snoc hli]
          exact sub.append (List.Sublist.refl _)
        · rcases List.mem_append.mp hb with hb | hb
          · exact st b hb
          · rw [List.mem_singleton.mp hb]
            exact ⟨by show 1 ≤ z; omega, by show z < n; omega⟩
      · walk_at "rd"
        refine ⟨bs, _, _, rfl, sm, hp, hbs, sub.trans (List.take_sublist_take_left (Nat.le_succ i)), st⟩
    · rintro σ H1 ⟨bs, v5, v6, rfl, sm1, hp1, hbs, sub, st⟩
      rw [List.take_length] at sub
      have hbl : bs.length ≤ ls.length := by
        have := sub.length_le
        rw [List.length_map] at this
        exact this
      walk_at "rd"
      refine i_lenl (.of (sm1 _ _ hL)) ?_
      rw [List.length_map]
      walk_at "rd"
      -- steps
      refine ⟨n, rfl, by omega, by omega, fun D hD => lc_range (n := n) (fun i H' => ∃ rs : List Addr, rs.length = i ∧ Same H1 H' ∧ H' D = some (.lst (rs.map V.ref)) ∧ rs.Nodup ∧ (∀ r ∈ rs, H1 r = none ∧ r ≠ D ∧ H' r = some (.lst (nums (List.replicate n 0)))))
        ⟨[], rfl, same_new hD _, upd_same, List.nodup_nil, fun _ h => by cases h⟩ ?_ ?_⟩
      · rintro i H' hi ⟨rs, hl, sm, hD', nd, hrs⟩
        walk_at "rd"
        refine ⟨rfl, ?_⟩
        walk_at "rd"
        refine ⟨n, rfl, by omega, by omega, fun D2 hD2 => lc_range (n := n) (fun j H2 => Same H' H2 ∧ H2 D2 = some (.lst (nums (List.replicate j 0)))) ⟨same_new hD2 _, upd_same⟩ ?_ ?_⟩
        · rintro j H2 hj ⟨s2, h2⟩
          walk_at "rd"
          refine ⟨rfl, ?_⟩
          walk_at "rd"
          refine ⟨_, h2, by rw [List.length_map, List.length_replicate]; exact small_line' (by omega), smut s2 hD2 _, ?_⟩
          rw [upd_same, List.replicate_succ']
          simp
        · rintro H2 ⟨s2, h2⟩
          have hn1 : H1 D2 = none := sm.free hD2
          have ndD : D2 ≠ D := (ne_of_none hD' hD2).symm
          refine ⟨_, s2 _ _ hD', by rw [List.length_map, hl]; exact small_line' (by omega), rs ++ [D2], by simp [hl], smut (sm.trans s2) hD _, by rw [upd_same]; simp, ?_, fun r hr => ?_⟩
          · exact List.nodup_append.mpr ⟨nd, by simp, fun x hx y hy => by
              rw [List.mem_singleton.mp hy]
              intro e
              subst e
              rw [(hrs x hx).2.2] at hD2
              cases hD2⟩
          · rcases List.mem_append.mp hr with hr | hr
            · obtain ⟨u1, u2, u3⟩ := hrs r hr
              exact ⟨u1, u2, by rw [upd_ne u2]; exact s2 _ _ u3⟩
            · rw [List.mem_singleton.mp hr]
              exact ⟨hn1, ndD, by rw [upd_ne ndD]; exact h2⟩
      · rintro H2 ⟨rs, hl, sm2, hD', nd, hrs⟩
        walk_at "rd"
        have h0D : H D = none := sm1.free hD
        have pz : Paired (fun r (row : List Nat) => H2 r = some (.lst (nums row))) rs (List.replicate n (List.replicate n 0)) := by
          rw [← hl]
          have : ∀ l : List Addr, (∀ r ∈ l, H2 r = some (.lst (nums (List.replicate n 0)))) → Paired (fun r (row : List Nat) => H2 r = some (.lst (nums row))) l (List.replicate l.length (List.replicate n 0)) := by
            intro l
            induction l with
            | nil => intro _; exact .nil
            | cons x r ih => intro h; exact .cons (h x List.mem_cons_self) (ih fun y hy => h y (List.mem_cons_of_mem _ hy))
          have h2 := this rs fun r hr => (hrs r hr).2.2
          rw [hl] at h2 ⊢
          exact h2
        -- the draws
        refine ⟨1, n, rfl, ⟨by decide, by decide, by omega, by omega⟩, for_range (lo := 1) (n := ((n : Int) - 1).toNat) (fun i σ H' => ∃ (k' : Int) (R : List (List Nat)) (v5 v6 v8 v9 : Option V), σ = [some (.ref a), some (.int k'), some (.int (n : Int)), some (.ref aL), some (.ref p0), v5, v6, some (.ref D), v8, v9, none] ∧
          0 ≤ k' ∧ k' ≤ 1100 + 6 * (i : Int) ∧ Same H1 H' ∧ H' D = some (.lst (rs.map V.ref)) ∧ Sq n R ∧ Paired (fun r (row : List Nat) => H' r = some (.lst (nums row))) rs R)
          ⟨k + (ls.length : Int), _, _, _, _, _, rfl, by omega, by omega, sm2, hD', sq_zero n1, pz⟩ ?_ ?_⟩
        · rintro i σ H' hi ⟨k', R, v5, v6, v8, v9, rfl, kk0, kk1, sm, hDi, sq, pr⟩
          walk_at "rd"
          refine ⟨1, n, rfl, ⟨by decide, by decide, by omega, by omega⟩, for_range (lo := 1) (n := ((n : Int) - 1).toNat) (fun j σ H' => ∃ (k' : Int) (R : List (List Nat)) (v5 v6 v9 : Option V), σ = [some (.ref a), some (.int k'), some (.int (n : Int)), some (.ref aL), some (.ref p0), v5, v6, some (.ref D), some (.int (1 + (i : Int))), v9, none] ∧
            0 ≤ k' ∧ k' ≤ 1100 + 6 * (i : Int) + (j : Int) ∧ Same H1 H' ∧ H' D = some (.lst (rs.map V.ref)) ∧ Sq n R ∧ Paired (fun r (row : List Nat) => H' r = some (.lst (nums row))) rs R)
            ⟨k', R, _, _, _, rfl, kk0, by omega, sm, hDi, sq, pr⟩ ?_ ?_⟩
          · rintro j σ H3 hj ⟨k2, R, v5, v6, v9, rfl, kk0, kk1, sm, hDi, sq, pr⟩
            walk_at "rd"
            refine ⟨a, ns, _, _, rfl, (sm1.trans sm).seq hS, by omega, by omega, by omega, fun z z0 z1 => ?_⟩
            obtain ⟨z, rfl⟩ := Int.eq_ofNat_of_zero_le z0
            refine i_gsub ?_
            walk_at "rd"
            obtain ⟨row, hrow⟩ : ∃ row, R[1 + i]? = some row := by
              have hlt : 1 + i < R.length := by rw [sq.len]; omega
              exact ⟨_, List.getElem?_eq_getElem hlt⟩
            obtain ⟨r, hr, hrr⟩ := paired_get' pr hrow
            have hrl := (sq.row _ (List.mem_of_getElem? hrow)).1
            have hm := List.mem_of_getElem? hr
            obtain ⟨u1, u2, _⟩ := hrs r hm
            refine i_ixl (v := .ref r) (.of hDi) (at_of (j := 1 + i) (by omega) (map_get hr)) ?_
            walk_at "rd"
            have ej : (1 + (j : Int)) = ((1 + j : Nat) : Int) := by omega
            rw [ej]
            refine i_setL hrr (by rw [List.length_map, hrl]; omega) ?_
            rw [nums_set]
            walk_at "rd"
            refine ⟨k2 + 1, R.set (1 + i) (row.set (1 + j) z), _, _, _, rfl, by omega, by omega, smut sm u1 _, by rw [upd_ne u2.symm]; exact hDi, sq_set sq (by omega) (by omega) (by omega) (by omega) hrow, paired_upd pr nd hr⟩
          · rintro σ H3 ⟨k2, R, v5, v6, v9, rfl, kk0, kk1, sm, hDi, sq, pr⟩
            exact ⟨k2, R, _, _, _, _, rfl, kk0, by omega, sm, hDi, sq, pr⟩
        · rintro σ H3 ⟨k2, R, v5, v6, v8, v9, rfl, kk0, kk1, sm3, hD3, sq, pr⟩
          walk_at "rd"
          -- good
          refine ⟨1, n, rfl, ⟨by decide, by decide, by omega, by omega⟩, fun G hG => lc_range (lo := 1) (n := ((n : Int) - 1).toNat) (fun i H' => ∃ gs : List Nat, gs.length ≤ i ∧ Same H3 H' ∧ H' G = some (.lst (nums gs)) ∧ ∀ g ∈ gs, 1 ≤ g ∧ g < n)
            ⟨[], Nat.le_refl 0, same_new hG _, upd_same, fun _ h => by cases h⟩ ?_ ?_⟩
          · rintro i H' hi ⟨gs, gl, s4, hG', hg⟩
            walk_at "rd"
            refine ⟨rfl, ?_⟩
            walk_at "rd"
            refine ⟨a, ns, _, _, rfl, ((sm1.trans sm3).trans s4).seq hS, by omega, by omega, by decide, fun z z0 z1 => ?_⟩
            walk_at "rd"
            refine ite2 (fun c => ?_) (fun c => ?_)
            · walk_at "rd"
              refine ⟨_, hG', by rw [List.length_map]; exact small_line' (by omega), gs ++ [1 + i], by simp; omega, smut s4 hG _, ?_, fun g hm => ?_⟩
              · rw [upd_same]
                unfold nums
                rw [List.map_append]
                have e : (1 + (i : Int)) = ((1 + i : Nat) : Int) := by omega
                rw [e]
                rfl
              · rcases List.mem_append.mp hm with hm | hm
                · exact hg g hm
                · rw [List.mem_singleton.mp hm]; omega
            · exact ⟨gs, by omega, s4, hG', hg⟩
          · rintro H4 ⟨gs, gl, s4, hG', hg⟩
            walk_at "rd"
            have s14 := sm3.trans s4
            refine ⟨p0, bs, rfl, .of (s14 _ _ hp1), fun b hb => s14 _ _ (hbs b hb), fun ys p5 perm hp5 => ?_⟩
            walk_at "rd"
            refine ⟨small_line (by simp), fun m hm => ?_⟩
            walk_at "rd"
            have s5 := (same_new hp5 (.lst (ys.map fun b => V.ref b.1))).trans (same_new hm (.tup [.ref p5, .ref D, .ref G]))
            have sAll : Same H (upd (upd H4 p5 (.lst (ys.map fun b => V.ref b.1))) m (.tup [.ref p5, .ref D, .ref G])) := sm1.trans (s14.trans s5)
            have subP : (ys.map fun b => b.2.1).Perm (bs.map fun b => b.2.1) := perm.map _
            refine q m _ ⟨ys.map (·.2), R, gs⟩ sAll ⟨p5, D, G, rs, upd_same, (sm1.trans s14).free hp5, h0D, (sm1.trans sm3).free hG, fun r hr => sm1.free (hrs r hr).1, ⟨ys.map (·.1), ?_, paired_starts fun b hb => ?_⟩, s5 _ _ (s4 _ _ hD3), paired_mono pr fun _ _ e => s5 _ _ (s4 _ _ e), s5 _ _ hG'⟩ ?_ sq.len (by show gs.length ≤ 10; omega)
            · have e := (same_new hm (.tup [.ref p5, .ref D, .ref G])) p5 _ upd_same
              rw [e, List.map_map]
              rfl
            · exact s5 _ _ (s14 _ _ (hbs b (perm.mem_iff.mp hb)))
            · refine ⟨fun p hp => ?_, ?_, fun p hp => ?_, fun p hp => ?_, fun r hr => ?_, ?_, sq.dead1, sq.dead2, fun g hm => ?_, fun g hm => (hg g hm).1, ?_, ?_⟩
              · obtain ⟨b, hb, rfl⟩ := List.mem_map.mp hp
                exact lok _ (sub.subset (List.mem_map.mpr ⟨b, perm.mem_iff.mp hb, rfl⟩))
              · show ((ys.map (·.2)).map (·.1)).Nodup
                rw [List.map_map]
                exact subP.nodup_iff.mpr (sub.nodup lnd)
              · obtain ⟨b, hb, rfl⟩ := List.mem_map.mp hp
                show b.2.2 < R.length
                rw [sq.len]
                exact (st b (perm.mem_iff.mp hb)).2
              · obtain ⟨b, hb, rfl⟩ := List.mem_map.mp hp
                exact (st b (perm.mem_iff.mp hb)).1
              · show r.length = R.length ∧ ∀ q ∈ r, q < R.length
                rw [sq.len]
                exact sq.row r hr
              · show 1 ≤ R.length
                rw [sq.len]; exact n1
              · show g < R.length
                rw [sq.len]
                exact (hg g hm).2
              · show R.length ≤ 100
                rw [sq.len]; omega
              · show (ys.map (·.2)).length ≤ 100
                rw [List.length_map, perm.length_eq]; omega
end
/-! ## 26. The first prices -/
def spPos : Sp := fun vs H Q _ => ∃ l : Tx, vs = [.str (S l)] ∧ l ≠ [] ∧ l.length ≤ 100 ∧ Q (.int (priceOf l : Int)) H
abbrev NPos : List Str := ["label"]
theorem scPos : FnScope NPos ["label"] (defScope sPos) := ⟨rfl, rfl, rfl, by decide +kernel, rfl, by decide +kernel, by decide +kernel⟩
theorem last_some {l : Tx} (h : l ≠ []) : ∃ c, l.getLast? = some c := by
  cases e : l.getLast? with
  | none => exact absurd (List.getLast?_eq_none_iff.mp e) h
  | some c => exact ⟨c, rfl⟩
theorem colon_dec {l : Tx} {c : Nat} (h : l.getLast? = some c) : decide (V.str (S [c]) = V.str (S [58])) = colonEnd l := by
  rw [S_eq]
  unfold colonEnd
  rw [h]
  by_cases e : c = 58
  · subst e; rfl
  · rw [decide_eq_false (by simpa using e), decide_eq_false (by simpa using e)]
def startOk (ss : List (Tx × Nat)) (c : Cs) : Prop := ∀ p ∈ ss, ∃ u, gt c p.2 = some u ∧ u ≤ priceOf p.1
def spStarted : Sp := fun vs H Q _ => ∃ (m : Addr) (M : Mac), vs = [.ref m] ∧ MacAt H m M ∧ M.Ok ∧ ∀ (t p h : Addr) (c : Cs) (hs : List V) (H' : Hp), Same H H' → H' t = some (.tup [.ref p, .ref h]) → H p = none → H h = none → p ≠ h →
  H' p = some (.lst (opts c)) → c.length = M.n → startOk M.starts c → H' h = some (.lst hs) → hs.length = M.n → Q (.ref t) H'
abbrev NStarted : List Str := ["machine", "prices", "hows", "label", "state", "signs", "row"]
theorem scStarted : FnScope NStarted ["machine"] (defScope sStarted) := ⟨rfl, rfl, rfl, by decide +kernel, rfl, by decide +kernel, by decide +kernel⟩
section
variable {P : Program} {w : World} {K : PySem.W.Frag} {mg : Str → Option Value} {base : Heap} {C : Addr}
theorem ok_pos {f : Addr} {fd : FuncData} (F : Fun K "price_of_start" "price_of_start" sPos f fd) (T : Txt K mg C) : FnOk P w K mg base CX0 1 f fd ["label"] spPos := by
  refine F.ok scPos (fun vs H Q E h => ?_) (fun cdv A outer s H vs Q E hr h => ?_)
  · obtain ⟨l, rfl, _⟩ := h
    rfl
  · obtain ⟨l, rfl, hne, hl, q⟩ := h
    refine ⟨_, (pss_cons (ps_if (pt_cmpR op_eq (pe_ix ix_str (pv 0) (pe_un un_neg pe_int) (fun _ _ => rfl)) (pes sl_lit3) (nomark _))
      (pss_one (ps_ret (pe_op op_add (pe_callB call_lenS (by rfl) T.len (by decide +kernel) (pa_cons (pv 0) pa_nil)) pe_int)))
      pss_nil)
    (pss_one (ps_ret (pe_op op_add (pe_callB call_lenS (by rfl) T.len (by decide +kernel) (pa_cons (pv 0) pa_nil)) pe_int)))), ?_⟩
    obtain ⟨c, hc⟩ := last_some hne
    walk_at "rd"
    refine i_ixs (small_line (by omega)) (at_last hc) ?_
    walk_at "rd"
    rw [colon_dec hc]
    unfold priceOf at q
    cases e : colonEnd l with
    | true =>
      rw [e] at q
      refine iteT ?_
      walk_at "rd"
      refine i_lens (by omega) ?_
      walk_at "rd"
      exact q
    | false =>
      rw [e] at q
      refine iteF ?_
      walk_at "rd"
      refine i_lens (by omega) ?_
      walk_at "rd"
      exact q
/-- [None for row in xs] -/
theorem nones_lc {K : PySem.W.Frag} {j : Nat} {σ : L2.St} {Q : VK} {a : Addr} {xs : List V} {H : Hp} (h : H a = some (.lst xs)) (hz : xs.length ≤ 1000) (q : ∀ (D : Addr) (H' : Hp), H D = none → Same H H' → H' D = some (.lst (opts (List.replicate xs.length none))) → Q (.ref D) H') :
    LCW (gName j) tYes (tC .non) [j] σ Q (Itl K a) H := by
  refine fun D hD => lc_list (K := K) (a := a) (xs := xs) (fun i H' => Same H H' ∧ H' D = some (.lst (opts (List.replicate i none)))) ⟨same_new hD _, upd_same⟩ (fun i H' _ h' => .of (h'.1 _ _ h)) ?_ ?_
  · rintro i x H' hi ⟨sm, hD'⟩
    have hlt := (List.getElem?_eq_some_iff.mp hi).1
    refine i_gname ?_
    refine ⟨by show ((wipe σ []).set j none |>.set j (some x)).set j none = _; simp [wipe], ?_⟩
    refine i_yes (iteT ?_)
    refine ⟨_, hD', by rw [List.length_map, List.length_replicate]; exact small_line' (by omega), smut sm hD _, ?_⟩
    rw [upd_same, List.replicate_succ']
    simp
  · rintro H' ⟨sm, hD'⟩
    exact q D H' hD sm hD'
theorem i_gtupN {K : PySem.W.Frag} {i j : Nat} {a : Addr} {x y : V} {σ : L2.St} {H : Hp} {Q : L2.St → Hp → Prop} (h : H a = some (.tup [x, y])) (q : Q ((σ.set i (some x)).set j (some y)) H) : gTup K 2 (gCons (gName i) (gCons (gName j) gNil)) (.ref a) σ H Q :=
  ⟨a, [x, y], rfl, SqT.of h, rfl, x, [y], rfl, y, [], rfl, rfl, q⟩
theorem ok_started {f : Addr} {fd : FuncData} (F : Fun K "started_prices" "started_prices" sStarted f fd) (cal_price_of_start : Cal P w K mg base CX0 "price_of_start" 1 ["label"] spPos) : FnOk P w K mg base CX0 2 f fd ["machine"] spStarted := by
  refine F.ok scStarted (fun vs H Q E h => ?_) (fun cdv A outer s H vs Q E hr h => ?_)
  · obtain ⟨m, M, rfl, _⟩ := h
    rfl
  · obtain ⟨m, M, rfl, ⟨a1, a2, a3, h0, ⟨ts, hts, pts⟩, ⟨rs, hrs, prs⟩, _⟩, hM, q⟩ := h
    refine ⟨_, (pss_cons (ps_setLc (i := 1) (own := [("row", 6)]) (g := gName 6) (tt := tYes) rfl scStarted.nd rfl rfl (sw_true rfl rfl rfl (by decide +kernel)) (pi_list (pe_ix ix_tup (pv 0) pe_int (fun _ _ => rfl))) (blkOk_by (own := [("row", 6)]) (N := NStarted) (sc := defScope sStarted) (by decide +kernel)) (fun _ _ _ _ _ => pg_name (i := 6) scStarted.nd rfl (Or.inl rfl)) (fun _ _ _ _ _ => pts_nil) (fun _ _ _ _ _ => pe_non))
    (pss_cons (ps_setLc (i := 2) (own := [("row", 6)]) (g := gName 6) (tt := tYes) rfl scStarted.nd rfl rfl (sw_true rfl rfl rfl (by decide +kernel)) (pi_list (pe_ix ix_tup (pv 0) pe_int (fun _ _ => rfl))) (blkOk_by (own := [("row", 6)]) (N := NStarted) (sc := defScope sStarted) (by decide +kernel)) (fun _ _ _ _ _ => pg_name (i := 6) scStarted.nd rfl (Or.inl rfl)) (fun _ _ _ _ _ => pts_nil) (fun _ _ _ _ _ => pe_non))
    (pss_cons (ps_for PassesOwn.never rfl (pi_list (pe_ix ix_tup (pv 0) pe_int (fun _ _ => rfl))) (pg_tup rfl (pgs_cons (pg_name (i := 3) scStarted.nd rfl (Or.inl rfl)) (pgs_cons (pg_name (i := 4) scStarted.nd rfl (Or.inl rfl)) pgs_nil)))
      (pss_cons (ps_set (i := 5) scStarted.nd rfl (Or.inl rfl) (pcal cal_price_of_start (hr.mono (by decide)) (pa_cons (pv 3) pa_nil)))
    (pss_one (ps_if (PW.pt (pw_or (pt_cmpR op_isNN (pe_ix ix_list (pv 1) (pv 4) (fun _ _ => rfl)) pe_non (nomark _)) (pw_or1 (pt_cmpR op_lt (pv 5) (pe_ix ix_list (pv 1) (pv 4) (fun _ _ => rfl)) (nomark _)))))
      (pss_cons (ps_asg (pv 5) (pg_sub (pv 1) (pv 4) set_list))
    (pss_one (ps_asg (pe_tup (pa_cons (pv 3) pa_nil)) (pg_sub (pv 2) (pv 4) set_list))))
      pss_nil))))
    (pss_one (ps_ret (pe_tup (pa_cons (pv 1) (pa_cons (pv 2) pa_nil)))))))), ?_⟩
    have hrl : (rs.map V.ref).length = M.n := by rw [List.length_map]; exact Paired.length prs
    have hsz : (rs.map V.ref).length ≤ 1000 := by rw [hrl]; have := hM.small; omega
    walk_at "rd"
    refine i_ixt (v := .ref a2) (.of h0) (show atI _ ((1 : Nat) : Int) = _ from atI_nat rfl) ?_
    refine ⟨a2, rfl, ⟨_, .of hrs⟩, nones_lc hrs hsz fun pP H1 hp s1 hp1 => ?_⟩
    rw [hrl] at hp1
    walk_at "rd"
    refine i_ixt (v := .ref a2) (.of (s1 _ _ h0)) (show atI _ ((1 : Nat) : Int) = _ from atI_nat rfl) ?_
    refine ⟨a2, rfl, ⟨_, .of (s1 _ _ hrs)⟩, nones_lc (s1 _ _ hrs) hsz fun pH H2 hh s2 hh1 => ?_⟩
    rw [hrl] at hh1
    have npp : pP ≠ pH := ne_of_none hp1 hh
    walk_at "rd"
    refine i_ixt (v := .ref a1) (.of ((s1.trans s2) _ _ h0)) (show atI _ ((0 : Nat) : Int) = _ from atI_nat rfl) ?_
    refine ⟨a1, rfl, ⟨_, .of ((s1.trans s2) _ _ hts)⟩, for_list (K := K) (a := a1) (xs := ts.map V.ref) (fun i σ H' => ∃ (c : Cs) (hs : List V) (v3 v4 v5 : Option V), σ = [some (.ref m), some (.ref pP), some (.ref pH), v3, v4, v5, none] ∧ Same H H' ∧
      H' pP = some (.lst (opts c)) ∧ c.length = M.n ∧ startOk (M.starts.take i) c ∧ H' pH = some (.lst hs) ∧ hs.length = M.n)
      ⟨_, _, none, none, none, rfl, s1.trans s2, s2 _ _ hp1, List.length_replicate, (fun _ h => by cases h), hh1, by rw [List.length_map, List.length_replicate]⟩ (fun i σ H' _ ⟨_, _, _, _, _, _, sm, _⟩ => .of (sm _ _ hts)) ?_ ?_⟩
    · rintro i x σ H' hi ⟨c, hs, v3, v4, v5, rfl, sm, hP, hc, st, hH, hhl⟩
      obtain ⟨t, ht, rfl⟩ := get_map hi
      obtain ⟨⟨l, z⟩, hlz, htt⟩ := paired_get pts ht
      have hmem := List.mem_of_getElem? hlz
      have hz : z < c.length := by rw [hc]; exact hM.st_lt _ hmem
      have hlab : LabOk l := hM.labs _ hmem
      have htt : H t = some (.tup [.str (S l), .int (z : Int)]) := htt
      have hat := opts_at hz
      have npa : pP ≠ a1 := fun e => by rw [e, hts] at hp; cases hp
      -- what a fall leaves
      have go : ∀ D : Ends, (∀ w, gt c z = some w → priceOf l < w) → (∀ (c : Cs) (hs : List V) (v5 : V) (H2 : Hp), Same H H2 → H2 pP = some (.lst (opts c)) → c.length = M.n → startOk (M.starts.take (i + 1)) c → H2 pH = some (.lst hs) → hs.length = M.n →
            D.nx [some (.ref m), some (.ref pP), some (.ref pH), some (.str (S l)), some (.int (z : Int)), some v5, none] H2) →
          tSeq (tAsg (tVar 5) (gSub (tVar 1) (tVar 4) rSetL)) (tAsg (tTup (tCons (tVar 3) tNil)) (gSub (tVar 2) (tVar 4) rSetL)) D [some (.ref m), some (.ref pP), some (.ref pH), some (.str (S l)), some (.int (z : Int)), some (.int (priceOf l : Int)), none] H' := by
        intro D hw nx
        walk_at "rd"
        refine i_gsub ?_
        walk_at "rd"
        refine i_setL hP (by rw [List.length_map]; exact hz) ?_
        rw [opts_set]
        walk_at "rd"
        refine ⟨small_line (by simp), fun u hu => ?_⟩
        refine i_gsub ?_
        walk_at "rd"
        have nuP : u ≠ pP := (ne_of_none upd_same hu).symm
        have hH' : (upd H' pP (.lst (opts (c.set z (some (priceOf l)))))) pH = some (.lst hs) := by rw [upd_ne npp.symm]; exact hH
        have nuH : u ≠ pH := (ne_of_none hH' hu).symm
        refine i_setL (xs := hs) (by rw [upd_ne nuH.symm]; exact hH') (by rw [hhl, ← hc]; exact hz) ?_
        have hu' : H u = none := by
          rw [upd_ne nuP] at hu
          exact sm.free hu
        have e1 : Same H (upd H' pP (.lst (opts (c.set z (some (priceOf l)))))) := smut sm hp _
        refine nx (c.set z (some (priceOf l))) _ (.int (priceOf l : Int)) _ (smut (smut e1 hu' _) (s1.free hh) _) ?_ (by rw [List.length_set]; exact hc) ?_ upd_same (by rw [List.length_set]; exact hhl)
        · rw [upd_ne npp, upd_ne nuP.symm, upd_same]
        · intro p hpm
          show ∃ u, gt (c.set z (some (priceOf l))) p.2 = some u ∧ u ≤ priceOf p.1
          rw [take_snoc hlz] at hpm
          rw [gt_set]
          rcases List.mem_append.mp hpm with hpm | hpm
          · obtain ⟨u, h1, h2⟩ := st p hpm
            by_cases e : z = p.2
            · rw [if_pos ⟨e, hz⟩]
              exact ⟨_, rfl, Nat.le_trans (Nat.le_of_lt (hw u (by rw [e]; exact h1))) h2⟩
            · rw [if_neg (fun h => e h.1)]; exact ⟨u, h1, h2⟩
          · rw [List.mem_singleton.mp hpm]
            rw [if_pos ⟨rfl, hz⟩]
            exact ⟨_, rfl, Nat.le_refl _⟩
      refine i_gtupN (sm _ _ htt) ?_
      walk_at "rd"
      refine ⟨l, rfl, lab_ne hlab, by have := lab_len hlab; omega, ?_⟩
      walk_at "rd"
      refine i_ixl (.of hP) hat ?_
      cases e : gt c z with
      | none =>
        walk_at "rd"
        refine iT non_non ?_
        walk_at "rt"
        refine go _ (fun w h => by rw [e] at h; cases h) ?_
        intro c hs v5 H2 h1 h2 h3 h4 h5 h6
        exact ⟨c, hs, _, _, _, rfl, h1, h2, h3, h4, h5, h6⟩
      | some u =>
        rw [e] at hat
        walk_at "rd"
        refine iF (int_non _) ?_
        walk_at "rd"
        refine i_ixl (.of hP) hat ?_
        walk_at "rd"
        rw [dec_lt]
        refine ite2 (fun cc => ?_) (fun cc => ?_)
        · have cc' := of_decide_eq_true cc
          refine go _ (fun w h => by rw [e] at h; cases h; exact cc') ?_
          intro c hs v5 H2 h1 h2 h3 h4 h5 h6
          exact ⟨c, hs, _, _, _, rfl, h1, h2, h3, h4, h5, h6⟩
        · have cc' : ¬ priceOf l < u := fun h => cc (decide_eq_true h)
          walk_at "rd"
          refine ⟨c, hs, _, _, _, rfl, sm, hP, hc, fun p hpm => ?_, hH, hhl⟩
          rw [take_snoc hlz] at hpm
          rcases List.mem_append.mp hpm with hpm | hpm
          · exact st p hpm
          · rw [List.mem_singleton.mp hpm]
            exact ⟨u, e, by show u ≤ priceOf l; omega⟩
    · rintro σ H' ⟨c, hs, v3, v4, v5, rfl, sm, hP, hc, st, hH, hhl⟩
      rw [List.take_of_length_le (by rw [List.length_map, Paired.length pts]; exact Nat.le_refl _)] at st
      walk_at "rd"
      refine ⟨small_line (by simp), fun t ht => ?_⟩
      walk_at "rd"
      have s3 := same_new ht (.tup [.ref pP, .ref pH])
      exact q t pP pH c hs _ (sm.trans s3) upd_same hp (s1.free hh) npp (s3 _ _ hP) hc st (s3 _ _ hH) hhl
end
/-! ## 27. A turn of the prices -/
def spFall : Sp := fun vs H Q _ => ∃ (a p h : Addr) (M : Mac) (c : Cs) (hs : List V) (H0 : Hp), vs = [.ref a, .ref p, .ref h] ∧ Same H0 H ∧ StepsAt H0 a M.steps ∧ M.Ok ∧ H0 p = none ∧ H0 h = none ∧ p ≠ h ∧ H p = some (.lst (opts c)) ∧ c.length = M.n ∧
  H h = some (.lst hs) ∧ hs.length = M.n ∧ ∀ (H' : Hp) (hs' : List V), Same H0 H' → H' p = some (.lst (opts (turn (tgP M.steps) (nwP M.steps) (prs M.n) (c, false)).1)) → H' h = some (.lst hs') → hs'.length = M.n →
    Q (.bl (turn (tgP M.steps) (nwP M.steps) (prs M.n) (c, false)).2) H'
abbrev NFall : List Str := ["steps", "prices", "hows", "fell", "p", "q", "after", "signs"]
theorem scFall : FnScope NFall ["steps", "prices", "hows"] (defScope sFall) := ⟨rfl, rfl, rfl, by decide +kernel, rfl, by decide +kernel, by decide +kernel⟩
theorem turn_one {ι : Type} (tg : ι → Nat) (nw : ι → Cs → Option Nat) (r : ι) (s : Cs × Bool) : turn tg nw [r] s = stp tg nw s r := rfl
section
variable {P : Program} {w : World} {K : PySem.W.Frag} {mg : Str → Option Value} {base : Heap} {C : Addr}
theorem ok_fall {f : Addr} {fd : FuncData} (F : Fun K "prices_fall" "prices_fall" sFall f fd) (T : Txt K mg C) : FnOk P w K mg base CX0 1 f fd ["steps", "prices", "hows"] spFall := by
  refine F.ok scFall (fun vs H Q E h => ?_) (fun cdv A outer s H vs Q E hr h => ?_)
  · obtain ⟨a, p, h, M, c, hs, H0, rfl, _⟩ := h
    rfl
  · obtain ⟨a, p, h, M, c, hs, H0, rfl, sm0, hst, hM, p0, h0, nph, hp, hcl, hh, hhl, q⟩ := h
    refine ⟨_, (pss_cons (ps_set (i := 3) scFall.nd rfl (Or.inl rfl) pe_bl)
    (pss_cons (ps_for PassesOwn.never rfl (pi_range2 rfl T.range (pa_cons pe_int (pa_cons (pe_callB call_lenQ (by rfl) T.len (by decide +kernel) (pa_cons (pv 0) pa_nil)) pa_nil))) (pg_name (i := 4) scFall.nd rfl (Or.inl rfl))
      (pss_one (ps_for PassesOwn.never rfl (pi_range2 rfl T.range (pa_cons pe_int (pa_cons (pe_callB call_lenQ (by rfl) T.len (by decide +kernel) (pa_cons (pv 0) pa_nil)) pa_nil))) (pg_name (i := 5) scFall.nd rfl (Or.inl rfl))
      (pss_cons (ps_set (i := 6) scFall.nd rfl (Or.inl rfl) (pe_ix ix_list (pe_ix ix_list (pv 0) (pv 4) (fun _ _ => rfl)) (pv 5) (fun _ _ => rfl)))
    (pss_one (ps_if (PW.pt (pw_and (pt_cmpR op_ne (pv 6) pe_int (nomark _)) (pw_and (pt_cmpR op_notNN (pe_ix ix_list (pv 1) (pv 4) (fun _ _ => rfl)) pe_non (nomark _)) (pw_and1 (pt_cmpR op_notNN (pe_ix ix_list (pv 1) (pv 5) (fun _ _ => rfl)) pe_non (nomark _))))))
      (pss_cons (ps_set (i := 7) scFall.nd rfl (Or.inl rfl) (pe_op op_add (pe_ix ix_list (pv 1) (pv 4) (fun _ _ => rfl)) (pe_ix ix_list (pv 1) (pv 5) (fun _ _ => rfl))))
    (pss_one (ps_if (PW.pt (pw_or (pt_cmpR op_isNN (pe_ix ix_list (pv 1) (pv 6) (fun _ _ => rfl)) pe_non (nomark _)) (pw_or1 (pt_cmpR op_lt (pv 7) (pe_ix ix_list (pv 1) (pv 6) (fun _ _ => rfl)) (nomark _)))))
      (pss_cons (ps_asg (pv 7) (pg_sub (pv 1) (pv 6) set_list))
    (pss_cons (ps_asg (pe_tup (pa_cons (pv 4) (pa_cons (pv 5) pa_nil))) (pg_sub (pv 2) (pv 6) set_list))
    (pss_one (ps_set (i := 3) scFall.nd rfl (Or.inl rfl) pe_bl))))
      pss_nil)))
      pss_nil))))))
    (pss_one (ps_ret (pv 3))))), ?_⟩
    obtain ⟨rs, hrs, prr⟩ := id hst
    have hrl : (rs.map V.ref).length = M.n := by rw [List.length_map]; exact Paired.length prr
    have hn1 := hM.pos
    have hn2 := hM.small
    walk_at "rd"
    refine i_lenl (.of (sm0 _ _ hrs)) ?_
    rw [hrl]
    walk_at "rd"
    refine ⟨1, M.n, rfl, ⟨by decide, by decide, by omega, by omega⟩, for_range (lo := 1) (n := ((M.n : Int) - 1).toNat) (fun i σ H' => ∃ (s : Cs × Bool) (hs : List V) (v4 v5 v6 v7 : Option V), σ = [some (.ref a), some (.ref p), some (.ref h), some (.bl s.2), v4, v5, v6, v7] ∧
      s = turn (tgP M.steps) (nwP M.steps) (rowsTo M.n i) (c, false) ∧ Same H0 H' ∧ H' p = some (.lst (opts s.1)) ∧ H' h = some (.lst hs) ∧ hs.length = M.n)
      ⟨(c, false), hs, none, none, none, none, rfl, rfl, sm0, hp, hh, hhl⟩ ?_ ?_⟩
    · rintro i σ H1 hi ⟨s1, hs, v4, v5, v6, v7, rfl, es1, sm1, hp1, hh1, hhl1⟩
      have hl1 : s1.1.length = M.n := by rw [es1, turn_length]; exact hcl
      walk_at "rd"
      refine i_lenl (.of (sm1 _ _ hrs)) ?_
      rw [hrl]
      walk_at "rd"
      refine ⟨1, M.n, rfl, ⟨by decide, by decide, by omega, by omega⟩, for_range (lo := 1) (n := ((M.n : Int) - 1).toNat) (fun j σ H' => ∃ (s : Cs × Bool) (hs : List V) (v5 v6 v7 : Option V), σ = [some (.ref a), some (.ref p), some (.ref h), some (.bl s.2), some (.int (1 + (i : Int))), v5, v6, v7] ∧
        s = turn (tgP M.steps) (nwP M.steps) (colsTo i j) s1 ∧ Same H0 H' ∧ H' p = some (.lst (opts s.1)) ∧ H' h = some (.lst hs) ∧ hs.length = M.n)
        ⟨s1, hs, _, _, _, rfl, rfl, sm1, hp1, hh1, hhl1⟩ ?_ ?_⟩
      · rintro j σ H2 hj ⟨⟨c2, f2⟩, hs2, v5, v6, v7, rfl, es2, sm2, hp2, hh2, hhl2⟩
        have hl2 : c2.length = M.n := by
          have e := congrArg (fun s : Cs × Bool => s.1.length) es2
          simp only at e
          rw [turn_length] at e
          rw [e]; exact hl1
        have hi' : 1 + i < M.n := by omega
        have hj' : 1 + j < M.n := by omega
        have ei : (1 + (i : Int)) = ((1 + i : Nat) : Int) := by omega
        have ej : (1 + (j : Int)) = ((1 + j : Nat) : Int) := by omega
        obtain ⟨rs', r, row, e1, e2, e3, e4⟩ := steps_get hM (hst.mono sm2) hi' hj'
        have haf := sp_lt hM (1 + i) (1 + j)
        generalize haft : sp M.steps (1 + i) (1 + j) = af at e4 haf
        -- the next state
        have nxt : ∀ s : Cs × Bool, s = stp (tgP M.steps) (nwP M.steps) (c2, f2) (i + 1, j + 1) → s = turn (tgP M.steps) (nwP M.steps) (colsTo i (j + 1)) s1 := fun s e => by
          rw [colsTo_succ, turn_append, ← es2]
          exact e
        have hnw : nwP M.steps (i + 1, j + 1) c2 = if af ≠ 0 ∧ af < c2.length then (match gt c2 (1 + i), gt c2 (1 + j) with | some a, some b => fallTo (gt c2 af) (a + b) | _, _ => none) else none := by
          unfold nwP
          simp only [Nat.add_comm i 1, Nat.add_comm j 1, haft]
          try rfl
        have stay : nwP M.steps (i + 1, j + 1) c2 = none → (c2, f2) = turn (tgP M.steps) (nwP M.steps) (colsTo i (j + 1)) s1 := fun e => nxt _ (by simp [stp, e])
        have atI1 := opts_at (c := c2) (s := 1 + i) (by rw [hl2]; exact hi')
        have atJ1 := opts_at (c := c2) (s := 1 + j) (by rw [hl2]; exact hj')
        have atA1 := opts_at (c := c2) (s := af) (by rw [hl2]; exact haf)
        walk_at "rd"
        refine i_ixl (.of e1) (by rw [ei]; exact e2) ?_
        walk_at "rd"
        refine i_ixl (.of e3) (by rw [ej]; exact e4) ?_
        walk_at "rd"
        by_cases z : af = 0
        · subst z
          refine iF (by simp) ?_
          walk_at "rd"
          exact ⟨(c2, f2), hs2, _, _, _, rfl, stay (by rw [hnw, if_neg (by simp)]), sm2, hp2, hh2, hhl2⟩
        refine iT (by rw [dec_int]; simp; exact z) ?_
        walk_at "rd"
        refine i_ixl (.of hp2) (by rw [ei]; exact atI1) ?_
        walk_at "rd"
        cases eI : gt c2 (1 + i) with
        | none =>
          refine iF nnon_non ?_
          walk_at "rd"
          exact ⟨(c2, f2), hs2, _, _, _, rfl, stay (by rw [hnw, eI]; split <;> rfl), sm2, hp2, hh2, hhl2⟩
        | some x =>
          rw [eI] at atI1
          refine iT (nint_non _) ?_
          walk_at "rd"
          refine i_ixl (.of hp2) (by rw [ej]; exact atJ1) ?_
          walk_at "rd"
          cases eJ : gt c2 (1 + j) with
          | none =>
            refine iF nnon_non ?_
            walk_at "rd"
            exact ⟨(c2, f2), hs2, _, _, _, rfl, stay (by rw [hnw, eI, eJ]; split <;> rfl), sm2, hp2, hh2, hhl2⟩
          | some y =>
            rw [eJ] at atJ1
            have hnw2 : nwP M.steps (i + 1, j + 1) c2 = fallTo (gt c2 af) (x + y) := by rw [hnw, eI, eJ, if_pos ⟨z, by rw [hl2]; exact haf⟩]
            -- what a fall leaves
            have go : ∀ D : Ends, fallTo (gt c2 af) (x + y) = some (x + y) → (∀ (s : Cs × Bool) (hs : List V) (v7 : V) (H' : Hp), s = turn (tgP M.steps) (nwP M.steps) (colsTo i (j + 1)) s1 → Same H0 H' → H' p = some (.lst (opts s.1)) → H' h = some (.lst hs) → hs.length = M.n →
                  D.nx [some (.ref a), some (.ref p), some (.ref h), some (.bl s.2), some (.int (1 + (i : Int))), some (.int (1 + (j : Int))), some (.int (af : Int)), some v7] H') →
                tSeq (tAsg (tVar 7) (gSub (tVar 1) (tVar 6) rSetL)) (tSeq (tAsg (tTup (tCons (tVar 4) (tCons (tVar 5) tNil))) (gSub (tVar 2) (tVar 6) rSetL)) (tAsg (tC (.bl true)) (gName 3))) D
                  [some (.ref a), some (.ref p), some (.ref h), some (.bl f2), some (.int (1 + (i : Int))), some (.int (1 + (j : Int))), some (.int (af : Int)), some (.int ((x : Int) + (y : Int)))] H2 := by
              intro D hf nx
              walk_at "rd"
              refine i_gsub ?_
              walk_at "rd"
              refine i_setL hp2 (by rw [List.length_map, hl2]; exact haf) ?_
              rw [show ((x : Int) + (y : Int)) = ((x + y : Nat) : Int) by omega, opts_set]
              walk_at "rd"
              refine ⟨small_line (by simp), fun u hu => ?_⟩
              refine i_gsub ?_
              walk_at "rd"
              have nup : u ≠ p := (ne_of_none upd_same hu).symm
              have hu' : H0 u = none := by
                rw [upd_ne nup] at hu
                exact sm2.free hu
              have hh' : (upd H2 p (.lst (opts (c2.set af (some (x + y)))))) h = some (.lst hs2) := by rw [upd_ne nph.symm]; exact hh2
              have nuh : u ≠ h := (ne_of_none hh' hu).symm
              refine i_setL (xs := hs2) (by rw [upd_ne nuh.symm]; exact hh') (by rw [hhl2]; exact haf) ?_
              walk_at "rd"
              refine nx (c2.set af (some (x + y)), true) _ _ _ (nxt _ ?_) (smut (smut (smut sm2 p0 _) hu' _) h0 _) ?_ upd_same (by rw [List.length_set]; exact hhl2)
              · have et : tgP M.steps (i + 1, j + 1) = af := by unfold tgP; simp only [Nat.add_comm i 1, Nat.add_comm j 1]; exact haft
                unfold stp
                rw [show (c2, f2).1 = c2 from rfl, hnw2, hf, et]
              · rw [upd_ne nph, upd_ne nup.symm, upd_same]
            refine iT (nint_non _) ?_
            walk_at "rd"
            refine i_ixl (.of hp2) (by rw [ei]; exact atI1) ?_
            walk_at "rd"
            refine i_ixl (.of hp2) (by rw [ej]; exact atJ1) ?_
            walk_at "rd"
            refine i_ixl (.of hp2) atA1 ?_
            cases eA : gt c2 af with
            | none =>
              walk_at "rd"
              refine iT non_non ?_
              walk_at "rt"
              refine go _ (by rw [eA]; rfl) ?_
              intro s hs v7 H' h1 h2 h3 h4 h5
              exact ⟨s, hs, _, _, _, rfl, h1, h2, h3, h4, h5⟩
            | some u =>
              rw [eA] at atA1
              walk_at "rd"
              refine iF (int_non _) ?_
              walk_at "rd"
              refine i_ixl (.of hp2) atA1 ?_
              walk_at "rd"
              by_cases cc : x + y < u
              · refine iT (decide_eq_true (by omega)) ?_
                walk_at "rt"
                refine go _ (by rw [eA]; unfold fallTo; simp only; rw [if_pos cc]) ?_
                intro s hs v7 H' h1 h2 h3 h4 h5
                exact ⟨s, hs, _, _, _, rfl, h1, h2, h3, h4, h5⟩
              · refine iF (decide_eq_false (by omega)) ?_
                walk_at "rd"
                exact ⟨(c2, f2), hs2, _, _, _, rfl, stay (by rw [hnw2, eA]; unfold fallTo; simp only; rw [if_neg cc]), sm2, hp2, hh2, hhl2⟩
      · rintro σ H2 ⟨s2, hs2, v5, v6, v7, rfl, es2, sm2, hp2, hh2, hhl2⟩
        have en : ((M.n : Int) - 1).toNat = M.n - 1 := by omega
        rw [en] at es2
        exact ⟨s2, hs2, _, _, _, _, rfl, by rw [rowsTo_succ, turn_append, ← es1]; exact es2, sm2, hp2, hh2, hhl2⟩
    · rintro σ H1 ⟨s1, hs1, v4, v5, v6, v7, rfl, es1, sm1, hp1, hh1, hhl1⟩
      have en : ((M.n : Int) - 1).toNat = M.n - 1 := by omega
      rw [en, rowsTo_all] at es1
      walk_at "rd"
      rw [es1]
      rw [es1] at hp1
      exact q H1 hs1 sm1 hp1 hh1 hhl1
end
/-! ## 28. The prices -/
def spPriced : Sp := fun vs H Q _ => ∃ (m : Addr) (M : Mac), vs = [.ref m] ∧ MacAt H m M ∧ M.Ok ∧ ∀ (t p h : Addr) (c : Cs) (H' : Hp), Same H H' → H' t = some (.tup [.ref p, .ref h]) → H p = none → H' p = some (.lst (opts c)) → PricesOk M c → Q (.ref t) H'
abbrev NPriced : List Str := ["machine", "told"]
theorem scPriced : FnScope NPriced ["machine"] (defScope sPriced) := ⟨rfl, rfl, rfl, by decide +kernel, rfl, by decide +kernel, by decide +kernel⟩
def spPof : Sp := fun vs H Q _ => ∃ (m : Addr) (M : Mac), vs = [.ref m] ∧ MacAt H m M ∧ M.Ok ∧ ∀ (p : Addr) (c : Cs) (H' : Hp), Same H H' → H p = none → H' p = some (.lst (opts c)) → PricesOk M c → Q (.ref p) H'
abbrev NPof : List Str := ["machine"]
theorem scPof : FnScope NPof ["machine"] (defScope sPof) := ⟨rfl, rfl, rfl, by decide +kernel, rfl, by decide +kernel, by decide +kernel⟩
theorem startOk_imp {ss : List (Tx × Nat)} {c d : Cs} (h : startOk ss c) (i : Imp c d) : startOk ss d := fun p hp => by
  obtain ⟨u, h1, h2⟩ := h p hp
  obtain ⟨v, h3, h4⟩ := i.2 _ u h1
  exact ⟨v, h3, Nat.le_trans h4 h2⟩
section
variable {P : Program} {w : World} {K : PySem.W.Frag} {mg : Str → Option Value} {base : Heap} {C : Addr}
theorem ok_priced {f : Addr} {fd : FuncData} (F : Fun K "priced" "priced" sPriced f fd) (cal_started_prices : Cal P w K mg base CX0 "started_prices" 2 ["machine"] spStarted) (cal_prices_fall : Cal P w K mg base CX0 "prices_fall" 1 ["steps", "prices", "hows"] spFall) :
    FnOk P w K mg base CX0 3 f fd ["machine"] spPriced := by
  refine F.ok scPriced (fun vs H Q E h => ?_) (fun cdv A outer s H vs Q E hr h => ?_)
  · obtain ⟨m, M, rfl, _⟩ := h
    rfl
  · obtain ⟨m, M, rfl, hm, hM, q⟩ := h
    refine ⟨_, (pss_cons (ps_set (i := 1) scPriced.nd rfl (Or.inl rfl) (pcal cal_started_prices (hr.mono (by decide)) (pa_cons (pv 0) pa_nil)))
    (pss_cons (ps_while PassesOwn.never (pt_val (pcal cal_prices_fall (hr.mono (by decide)) (pa_cons (pe_ix ix_tup (pv 0) pe_int (fun _ _ => rfl)) (pa_cons (pe_ix ix_tup (pv 1) pe_int (fun _ _ => rfl)) (pa_cons (pe_ix ix_tup (pv 1) pe_int (fun _ _ => rfl)) pa_nil)))))
      (pss_one ps_pass))
    (pss_one (ps_ret (pv 1))))), ?_⟩
    walk_at "rd"
    refine ⟨m, M, rfl, hm, hM, fun t p h c0 hs0 H1 s1 ht hp hh nph hp1 hc0 st0 hh1 hl0 => ?_⟩
    obtain ⟨a1, a2, a3, h0, _, hst, _⟩ := hm
    walk_at "rd"
    have sB : Same H (hide [p, h] H1) := fun b o e => by
      rw [hide_get (by
        simp only [List.mem_cons, List.not_mem_nil, or_false]
        rintro (z | z)
        · rw [z, hp] at e; cases e
        · rw [z, hh] at e; cases e)]
      exact s1 b o e
    have htB : hide [p, h] H1 t = some (.tup [.ref p, .ref h]) := by
      rw [hide_get (by
        simp only [List.mem_cons, List.not_mem_nil, or_false]
        rintro (z | z)
        · rw [z, hp1] at ht; cases ht
        · rw [z, hh1] at ht; cases ht)]
      exact ht
    obtain ⟨k0, hk0⟩ := lim_ex (fallsP M.steps) (prs M.n) c0
    refine ⟨fun k σ H' => ∃ (c : Cs) (hs : List V), σ = [some (.ref m), some (.ref t)] ∧ Same (hide [p, h] H1) H' ∧ H' p = some (.lst (opts c)) ∧ c.length = M.n ∧ startOk M.starts c ∧ H' h = some (.lst hs) ∧ hs.length = M.n ∧
      (turn (tgP M.steps) (nwP M.steps) (prs M.n) (it (tgP M.steps) (nwP M.steps) (prs M.n) k c, false)).2 = false, ⟨k0, c0, hs0, rfl, hide_same _ _, hp1, hc0, st0, hh1, hl0, hk0⟩, ?_⟩
    rintro k σ H2 ⟨c, hs, rfl, s2, hp2, hc, st, hh2, hl2, hk⟩
    walk_at "rd"
    refine i_ixt (v := .ref a2) (.of (s2 _ _ (sB _ _ h0))) (show atI _ ((1 : Nat) : Int) = _ from atI_nat rfl) ?_
    walk_at "rd"
    refine i_ixt (v := .ref p) (.of (s2 _ _ htB)) (show atI _ ((0 : Nat) : Int) = _ from atI_nat rfl) ?_
    walk_at "rd"
    refine i_ixt (v := .ref h) (.of (s2 _ _ htB)) (show atI _ ((1 : Nat) : Int) = _ from atI_nat rfl) ?_
    walk_at "rd"
    refine ⟨a2, p, h, M, c, hs, hide [p, h] H1, rfl, s2, hst.mono sB, hM, hide_none (by simp), hide_none (by simp), nph, hp2, hc, hh2, hl2, fun H3 hs3 s3 hp3 hh3 hl3 => ?_⟩
    walk_at "rd"
    have himp := turn_imp (fallsP M.steps) (prs M.n) (c, false)
    have hlen := turn_length (tg := tgP M.steps) (nw := nwP M.steps) (prs M.n) (c, false)
    cases eb : (turn (tgP M.steps) (nwP M.steps) (prs M.n) (c, false)).2 with
    | true =>
      refine iteT ?_
      cases k with
      | zero =>
        have hk' : (turn (tgP M.steps) (nwP M.steps) (prs M.n) (c, false)).2 = false := hk
        rw [eb] at hk'
        cases hk'
      | succ k =>
        refine ⟨fun σ H' => ∃ (c : Cs) (hs : List V), σ = [some (.ref m), some (.ref t)] ∧ Same (hide [p, h] H1) H' ∧ H' p = some (.lst (opts c)) ∧ c.length = M.n ∧ startOk M.starts c ∧ H' h = some (.lst hs) ∧ hs.length = M.n ∧
          (turn (tgP M.steps) (nwP M.steps) (prs M.n) (it (tgP M.steps) (nwP M.steps) (prs M.n) k c, false)).2 = false, fun σ' H' q => ⟨k, Nat.lt_succ_self k, q⟩, ?_⟩
        walk_at "rd"
        exact ⟨_, hs3, rfl, s3, hp3, hlen.trans hc, startOk_imp st himp, hh3, hl3, hk⟩
    | false =>
      refine iteF ?_
      walk_at "rd"
      have e := (turn_still _ _ eb).1
      rw [e] at hp3
      exact q t p h c H3 (sB.trans s3) (s3 _ _ htB) hp hp3 ⟨hc, st, still_shutP hc eb⟩
theorem ok_pof {f : Addr} {fd : FuncData} (F : Fun K "prices_of" "prices_of" sPof f fd) (cal_priced : Cal P w K mg base CX0 "priced" 3 ["machine"] spPriced) :
    FnOk P w K mg base CX0 4 f fd ["machine"] spPof := by
  refine F.ok scPof (fun vs H Q E h => ?_) (fun cdv A outer s H vs Q E hr h => ?_)
  · obtain ⟨m, M, rfl, _⟩ := h
    rfl
  · obtain ⟨m, M, rfl, hm, hM, q⟩ := h
    refine ⟨_, (pss_one (ps_ret (pe_ix ix_tup (pcal cal_priced (hr.mono (by decide)) (pa_cons (pv 0) pa_nil)) pe_int (fun _ _ => rfl)))), ?_⟩
    walk_at "rd"
    refine ⟨m, M, rfl, hm, hM, fun t p h c H1 s1 ht hp hp1 ok => ?_⟩
    walk_at "rd"
    exact i_ixt (v := .ref p) (.of ht) (show atI _ ((0 : Nat) : Int) = _ from atI_nat rfl) (q p c H1 s1 hp hp1 ok)
end
/-! ## 29. Closing costs -/
def spClosing : Sp := fun vs H Q _ => ∃ (a p cl : Addr) (M : Mac) (pr closed : Cs), vs = [.ref a, .ref p, .ref cl] ∧ StepsAt H a M.steps ∧ M.Ok ∧ H p = some (.lst (opts pr)) ∧ pr.length = M.n ∧ H cl = some (.lst (opts closed)) ∧ closed.length = M.n ∧
  ∀ (D : Addr) (H' : Hp), H D = none → Same H H' → H' D = some (.lst (opts (closing M.steps pr closed))) → Q (.ref D) H'
abbrev NClosing : List Str := ["steps", "prices", "closed", "costs", "p", "fell", "q", "behind", "row"]
theorem scClosing : FnScope NClosing ["steps", "prices", "closed"] (defScope sClosing) := ⟨rfl, rfl, rfl, by decide +kernel, rfl, by decide +kernel, by decide +kernel⟩
theorem gt_ext {c d : Cs} (hl : c.length = d.length) (h : ∀ j, j < c.length → gt c j = gt d j) : c = d := by
  apply List.ext_getElem hl
  intro j h1 h2
  have e := h j h1
  unfold gt at e
  rw [List.getD_eq_getElem?_getD, List.getD_eq_getElem?_getD, List.getElem?_eq_getElem h1, List.getElem?_eq_getElem h2] at e
  exact e
theorem gt_rep (n j : Nat) : gt (List.replicate n none) j = none := by
  unfold gt
  rw [List.getD_eq_getElem?_getD, List.getElem?_replicate]
  split <;> rfl
section
variable {P : Program} {w : World} {K : PySem.W.Frag} {mg : Str → Option Value} {base : Heap} {C : Addr}
theorem ok_closing {f : Addr} {fd : FuncData} (F : Fun K "closing_costs" "closing_costs" sClosing f fd) (T : Txt K mg C) : FnOk P w K mg base CX0 1 f fd ["steps", "prices", "closed"] spClosing := by
  refine F.ok scClosing (fun vs H Q E h => ?_) (fun cdv A outer s H vs Q E hr h => ?_)
  · obtain ⟨a, p, cl, M, pr, closed, rfl, _⟩ := h
    rfl
  · obtain ⟨a, p, cl, M, pr, closed, rfl, hst, hM, hp, hpl, hcl, hcll, q⟩ := h
    refine ⟨_, (pss_cons (ps_setLc (i := 3) (own := [("row", 8)]) (g := gName 8) (tt := tYes) rfl scClosing.nd rfl rfl (sw_true rfl rfl rfl (by decide +kernel)) (pi_list (pv 0)) (blkOk_by (own := [("row", 8)]) (N := NClosing) (sc := defScope sClosing) (by decide +kernel)) (fun _ _ _ _ _ => pg_name (i := 8) scClosing.nd rfl (Or.inl rfl)) (fun _ _ _ _ _ => pts_nil) (fun _ _ _ _ _ => pe_non))
    (pss_cons (ps_for PassesOwn.never rfl (pi_range1 rfl T.range (pa_cons (pe_callB call_lenQ (by rfl) T.len (by decide +kernel) (pa_cons (pv 0) pa_nil)) pa_nil)) (pg_name (i := 4) scClosing.nd rfl (Or.inl rfl))
      (pss_one (ps_if (pt_cmpR op_notNN (pe_ix ix_list (pv 2) (pv 4) (fun _ _ => rfl)) pe_non (nomark _))
      (pss_one (ps_asg (pe_op op_add (pe_ix ix_list (pv 2) (pv 4) (fun _ _ => rfl)) pe_int) (pg_sub (pv 3) (pv 4) set_list)))
      pss_nil)))
    (pss_cons (ps_set (i := 5) scClosing.nd rfl (Or.inl rfl) pe_bl)
    (pss_cons (ps_while PassesOwn.never (pt_val (pv 5))
      (pss_cons (ps_set (i := 5) scClosing.nd rfl (Or.inl rfl) pe_bl)
    (pss_one (ps_for PassesOwn.never rfl (pi_range2 rfl T.range (pa_cons pe_int (pa_cons (pe_callB call_lenQ (by rfl) T.len (by decide +kernel) (pa_cons (pv 0) pa_nil)) pa_nil))) (pg_name (i := 4) scClosing.nd rfl (Or.inl rfl))
      (pss_one (ps_for PassesOwn.never rfl (pi_range2 rfl T.range (pa_cons pe_int (pa_cons (pe_callB call_lenQ (by rfl) T.len (by decide +kernel) (pa_cons (pv 0) pa_nil)) pa_nil))) (pg_name (i := 6) scClosing.nd rfl (Or.inl rfl))
      (pss_cons (ps_set (i := 7) scClosing.nd rfl (Or.inl rfl) (pe_ix ix_list (pv 3) (pe_ix ix_list (pe_ix ix_list (pv 0) (pv 4) (fun _ _ => rfl)) (pv 6) (fun _ _ => rfl)) (fun _ _ => rfl)))
    (pss_one (ps_if (PW.pt (pw_and (pt_cmpR op_notNN (pe_ix ix_list (pv 1) (pv 6) (fun _ _ => rfl)) pe_non (nomark _)) (pw_and1 (pt_cmpR op_notNN (pv 7) pe_non (nomark _)))))
      (pss_one (ps_if (PW.pt (pw_or (pt_cmpR op_isNN (pe_ix ix_list (pv 3) (pv 4) (fun _ _ => rfl)) pe_non (nomark _)) (pw_or1 (pt_cmpR op_lt (pe_op op_add (pe_ix ix_list (pv 1) (pv 6) (fun _ _ => rfl)) (pv 7)) (pe_ix ix_list (pv 3) (pv 4) (fun _ _ => rfl)) (nomark _)))))
      (pss_cons (ps_asg (pe_op op_add (pe_ix ix_list (pv 1) (pv 6) (fun _ _ => rfl)) (pv 7)) (pg_sub (pv 3) (pv 4) set_list))
    (pss_one (ps_set (i := 5) scClosing.nd rfl (Or.inl rfl) pe_bl)))
      pss_nil))
      pss_nil)))))))))
    (pss_one (ps_ret (pv 3))))))), ?_⟩
    obtain ⟨rs, hrs, prr⟩ := id hst
    have hrl : (rs.map V.ref).length = M.n := by rw [List.length_map]; exact Paired.length prr
    have hn1 := hM.pos
    have hn2 := hM.small
    walk_at "rd"
    refine ⟨a, rfl, ⟨_, .of hrs⟩, nones_lc hrs (by rw [hrl]; omega) fun D H1 hD s1 hD1 => ?_⟩
    rw [hrl] at hD1
    walk_at "rd"
    refine i_lenl (.of (s1 _ _ hrs)) ?_
    rw [hrl]
    walk_at "rd"
    refine ⟨M.n, rfl, by omega, by omega, for_range (n := M.n) (fun i σ H' => ∃ (c : Cs) (v4 : Option V), σ = [some (.ref a), some (.ref p), some (.ref cl), some (.ref D), v4, none, none, none, none] ∧ Same H H' ∧ H' D = some (.lst (opts c)) ∧ c.length = M.n ∧
      ∀ j, gt c j = if j < i then gt (fst1 closed) j else none) ⟨_, none, rfl, s1, hD1, List.length_replicate, fun j => by rw [gt_rep]; split <;> first | omega | rfl⟩ ?_ ?_⟩
    · rintro i σ H2 hi ⟨c, v4, rfl, s2, hD2, hcn, hc⟩
      have hat := opts_at (c := closed) (s := i) (by rw [hcll]; exact hi)
      have e0 : (0 + (i : Int)) = (i : Int) := by omega
      walk_at "rd"
      refine i_ixl (.of (s2 _ _ hcl)) (by rw [e0]; exact hat) ?_
      walk_at "rd"
      cases e : gt closed i with
      | none =>
        refine iF nnon_non ?_
        walk_at "rd"
        refine ⟨c, _, rfl, s2, hD2, hcn, fun j => ?_⟩
        rw [hc]
        by_cases h : j = i
        · subst h
          rw [if_neg (by omega), if_pos (by omega), gt_fst1, e]; rfl
        · by_cases h2 : j < i
          · rw [if_pos h2, if_pos (by omega)]
          · rw [if_neg h2, if_neg (by omega)]
      | some x =>
        rw [e] at hat
        refine iT (nint_non _) ?_
        walk_at "rd"
        refine i_ixl (.of (s2 _ _ hcl)) (by rw [e0]; exact hat) ?_
        walk_at "rd"
        refine i_gsub ?_
        walk_at "rd"
        rw [e0]
        refine i_setL hD2 (by rw [List.length_map, hcn]; exact hi) ?_
        rw [show ((x : Int) + 1) = ((x + 1 : Nat) : Int) by omega, opts_set]
        refine ⟨c.set i (some (x + 1)), _, by rw [← e0]; rfl, smut s2 hD _, upd_same, by rw [List.length_set]; exact hcn, fun j => ?_⟩
        rw [gt_set, hc]
        by_cases h : i = j
        · subst h
          rw [if_pos ⟨rfl, by rw [hcn]; exact hi⟩, if_pos (by omega), gt_fst1, e]; rfl
        · rw [if_neg (fun z => h z.1)]
          by_cases h2 : j < i
          · rw [if_pos h2, if_pos (by omega)]
          · rw [if_neg h2, if_neg (by omega)]
    · rintro σ H2 ⟨c0, v4, rfl, s2, hD2, hcn, hc⟩
      have ec0 : c0 = fst1 closed := gt_ext (by rw [hcn]; simp [fst1, hcll]) fun j hj => by rw [hc, if_pos (by rw [hcn] at hj; exact hj)]
      subst ec0
      obtain ⟨k0, hk0⟩ := lim_ex (fallsC M.steps pr) (prs M.n) (fst1 closed)
      walk_at "rd"
      refine ⟨fun m σ H' => ∃ (c : Cs) (f : Bool) (v4 v6 v7 : Option V) (j : Nat), σ = [some (.ref a), some (.ref p), some (.ref cl), some (.ref D), v4, some (.bl f), v6, v7, none] ∧ Same H H' ∧ H' D = some (.lst (opts c)) ∧ c.length = M.n ∧ c = it tgC (nwC M.steps pr) (prs M.n) j (fst1 closed) ∧
        ((f = true ∧ ∃ k, m = k + 1 ∧ (turn tgC (nwC M.steps pr) (prs M.n) (it tgC (nwC M.steps pr) (prs M.n) k c, false)).2 = false) ∨ (f = false ∧ (turn tgC (nwC M.steps pr) (prs M.n) (c, false)).2 = false)),
        ⟨k0 + 1, _, true, v4, none, none, 0, rfl, s2, hD2, hcn, rfl, .inl ⟨rfl, k0, rfl, hk0⟩⟩, ?_⟩
      rintro m σ H3 ⟨c, f, v4, v6, v7, jj, rfl, s3, hD3, hcn3, ej, hf⟩
      walk_at "rd"
      rcases hf with ⟨rfl, k, rfl, hk⟩ | ⟨rfl, hk⟩
      · refine iteT ?_
        refine ⟨fun σ H' => ∃ (c' : Cs) (f : Bool) (v4 v6 v7 : Option V), σ = [some (.ref a), some (.ref p), some (.ref cl), some (.ref D), v4, some (.bl f), v6, v7, none] ∧ Same H H' ∧ H' D = some (.lst (opts c')) ∧ (c', f) = turn tgC (nwC M.steps pr) (prs M.n) (c, false), ?_, ?_⟩
        · rintro σ' H' ⟨c', f, v4, v6, v7, rfl, s4, hD4, ec⟩
          have hl' : c'.length = M.n := by
            have e := congrArg (fun s : Cs × Bool => s.1.length) ec
            simp only at e
            rw [e, turn_length]; exact hcn3
          have ec1 : c' = (turn tgC (nwC M.steps pr) (prs M.n) (c, false)).1 := congrArg Prod.fst ec
          have ec2 : f = (turn tgC (nwC M.steps pr) (prs M.n) (c, false)).2 := congrArg Prod.snd ec
          have ejj : c' = it tgC (nwC M.steps pr) (prs M.n) (jj + 1) (fst1 closed) := by
            rw [it_add, ← ej, ec1]; rfl
          cases f with
          | true =>
            cases k with
            | zero =>
              have hk' : (turn tgC (nwC M.steps pr) (prs M.n) (c, false)).2 = false := hk
              rw [← ec2] at hk'
              cases hk'
            | succ k =>
              refine ⟨k + 1, Nat.lt_succ_self _, c', true, v4, v6, v7, jj + 1, rfl, s4, hD4, hl', ejj, .inl ⟨rfl, k, rfl, ?_⟩⟩
              rw [ec1]; exact hk
          | false =>
            have e := (turn_still _ _ ec2.symm).1
            refine ⟨0, Nat.succ_pos _, c', false, v4, v6, v7, jj + 1, rfl, s4, hD4, hl', ejj, .inr ⟨rfl, ?_⟩⟩
            rw [ec1, e]; exact ec2.symm
        · walk_at "rd"
          refine i_lenl (.of (s3 _ _ hrs)) ?_
          rw [hrl]
          walk_at "rd"
          refine ⟨1, M.n, rfl, ⟨by decide, by decide, by omega, by omega⟩, for_range (lo := 1) (n := ((M.n : Int) - 1).toNat) (fun i σ H' => ∃ (s : Cs × Bool) (v4 v6 v7 : Option V), σ = [some (.ref a), some (.ref p), some (.ref cl), some (.ref D), v4, some (.bl s.2), v6, v7, none] ∧
            s = turn tgC (nwC M.steps pr) (rowsTo M.n i) (c, false) ∧ Same H H' ∧ H' D = some (.lst (opts s.1))) ⟨(c, false), _, _, _, rfl, rfl, s3, hD3⟩ ?_ ?_⟩
          · rintro i σ H4 hi ⟨t1, v4, v6, v7, rfl, es1, s4, hD4⟩
            have hl1 : t1.1.length = M.n := by rw [es1, turn_length]; exact hcn3
            walk_at "rd"
            refine i_lenl (.of (s4 _ _ hrs)) ?_
            rw [hrl]
            walk_at "rd"
            refine ⟨1, M.n, rfl, ⟨by decide, by decide, by omega, by omega⟩, for_range (lo := 1) (n := ((M.n : Int) - 1).toNat) (fun j σ H' => ∃ (s : Cs × Bool) (v6 v7 : Option V), σ = [some (.ref a), some (.ref p), some (.ref cl), some (.ref D), some (.int (1 + (i : Int))), some (.bl s.2), v6, v7, none] ∧
              s = turn tgC (nwC M.steps pr) (colsTo i j) t1 ∧ Same H H' ∧ H' D = some (.lst (opts s.1))) ⟨t1, _, _, rfl, rfl, s4, hD4⟩ ?_ ?_⟩
            · rintro j σ H5 hj ⟨⟨c2, f2⟩, v6, v7, rfl, es2, s5, hD5⟩
              have hl2 : c2.length = M.n := by
                have e := congrArg (fun s : Cs × Bool => s.1.length) es2
                simp only at e
                rw [turn_length] at e
                rw [e]; exact hl1
              have hi' : 1 + i < M.n := by omega
              have hj' : 1 + j < M.n := by omega
              have ei : (1 + (i : Int)) = ((1 + i : Nat) : Int) := by omega
              have ej : (1 + (j : Int)) = ((1 + j : Nat) : Int) := by omega
              obtain ⟨rs', r, row, e1, e2, e3, e4⟩ := steps_get hM (hst.mono s5) hi' hj'
              have haf := sp_lt hM (1 + i) (1 + j)
              generalize haft : sp M.steps (1 + i) (1 + j) = af at e4 haf
              have nxt : ∀ s : Cs × Bool, s = stp tgC (nwC M.steps pr) (c2, f2) (i + 1, j + 1) → s = turn tgC (nwC M.steps pr) (colsTo i (j + 1)) t1 := fun s e => by
                rw [colsTo_succ, turn_append, ← es2]
                exact e
              have hnw : nwC M.steps pr (i + 1, j + 1) c2 = (match gt pr (1 + j), gt c2 af with | some a, some b => fallTo (gt c2 (1 + i)) (a + b) | _, _ => none) := by
                unfold nwC
                simp only [Nat.add_comm i 1, Nat.add_comm j 1, haft]
                rw [if_pos (by rw [hl2]; exact hi')]
                try rfl
              have stay : nwC M.steps pr (i + 1, j + 1) c2 = none → (c2, f2) = turn tgC (nwC M.steps pr) (colsTo i (j + 1)) t1 := fun e => nxt _ (by simp [stp, e])
              have atI1 := opts_at (c := c2) (s := 1 + i) (by rw [hl2]; exact hi')
              have atJ1 := opts_at (c := pr) (s := 1 + j) (by rw [hpl]; exact hj')
              have atA1 := opts_at (c := c2) (s := af) (by rw [hl2]; exact haf)
              walk_at "rd"
              refine i_ixl (.of e1) (by rw [ei]; exact e2) ?_
              walk_at "rd"
              refine i_ixl (.of e3) (by rw [ej]; exact e4) ?_
              refine i_ixl (.of hD5) atA1 ?_
              walk_at "rd"
              refine i_ixl (.of (s5 _ _ hp)) (by rw [ej]; exact atJ1) ?_
              walk_at "rd"
              cases eJ : gt pr (1 + j) with
              | none =>
                refine iF nnon_non ?_
                walk_at "rd"
                exact ⟨(c2, f2), _, _, rfl, stay (by rw [hnw, eJ]), s5, hD5⟩
              | some x =>
                rw [eJ] at atJ1
                refine iT (nint_non _) ?_
                cases eA : gt c2 af with
                | none =>
                  walk_at "rd"
                  refine iF nnon_non ?_
                  walk_at "rd"
                  exact ⟨(c2, f2), _, _, rfl, stay (by rw [hnw, eJ, eA]), s5, hD5⟩
                | some y =>
                  have hnw2 : nwC M.steps pr (i + 1, j + 1) c2 = fallTo (gt c2 (1 + i)) (x + y) := by rw [hnw, eJ, eA]
                  -- what a fall leaves
                  have go : ∀ D0 : Ends, fallTo (gt c2 (1 + i)) (x + y) = some (x + y) → (∀ (s : Cs × Bool) (H' : Hp), s = turn tgC (nwC M.steps pr) (colsTo i (j + 1)) t1 → Same H H' → H' D = some (.lst (opts s.1)) →
                        D0.nx [some (.ref a), some (.ref p), some (.ref cl), some (.ref D), some (.int (1 + (i : Int))), some (.bl s.2), some (.int (1 + (j : Int))), some (.int (y : Int)), none] H') →
                      tSeq (tAsg (tOp (rI0 fun i j => .int (i + j)) (tOp (rIxL K) (tVar 1) (tVar 6)) (tVar 7)) (gSub (tVar 3) (tVar 4) rSetL)) (tAsg (tC (.bl true)) (gName 5)) D0
                        [some (.ref a), some (.ref p), some (.ref cl), some (.ref D), some (.int (1 + (i : Int))), some (.bl f2), some (.int (1 + (j : Int))), some (.int (y : Int)), none] H5 := by
                    intro D0 hf nx
                    walk_at "rd"
                    refine i_ixl (.of (s5 _ _ hp)) (by rw [ej]; exact atJ1) ?_
                    walk_at "rd"
                    refine i_gsub ?_
                    walk_at "rd"
                    rw [show rSetL (V.ref D) (V.int (1 + (i : Int))) = rSetL (V.ref D) (V.int ((1 + i : Nat) : Int)) by rw [ei]]
                    refine i_setL hD5 (by rw [List.length_map, hl2]; exact hi') ?_
                    rw [show ((x : Int) + (y : Int)) = ((x + y : Nat) : Int) by omega, opts_set]
                    walk_at "rd"
                    refine nx (c2.set (1 + i) (some (x + y)), true) _ (nxt _ ?_) (smut s5 hD _) upd_same
                    have et : tgC (i + 1, j + 1) = 1 + i := Nat.add_comm i 1
                    unfold stp
                    rw [show (c2, f2).1 = c2 from rfl, hnw2, hf, et]
                  walk_at "rd"
                  refine iT (nint_non _) ?_
                  walk_at "rd"
                  refine i_ixl (.of hD5) (by rw [ei]; exact atI1) ?_
                  cases eI : gt c2 (1 + i) with
                  | none =>
                    walk_at "rd"
                    refine iT non_non ?_
                    walk_at "rt"
                    refine go _ (by rw [eI]; rfl) ?_
                    intro s H' h1 h2 h3
                    exact ⟨s, _, _, rfl, h1, h2, h3⟩
                  | some u =>
                    rw [eI] at atI1
                    walk_at "rd"
                    refine iF (int_non _) ?_
                    walk_at "rd"
                    refine i_ixl (.of (s5 _ _ hp)) (by rw [ej]; exact atJ1) ?_
                    walk_at "rd"
                    refine i_ixl (.of hD5) (by rw [ei]; exact atI1) ?_
                    walk_at "rd"
                    by_cases cc : x + y < u
                    · refine iT (decide_eq_true (by omega)) ?_
                      walk_at "rt"
                      refine go _ (by rw [eI]; unfold fallTo; simp only; rw [if_pos cc]) ?_
                      intro s H' h1 h2 h3
                      exact ⟨s, _, _, rfl, h1, h2, h3⟩
                    · refine iF (decide_eq_false (by omega)) ?_
                      walk_at "rd"
                      exact ⟨(c2, f2), _, _, rfl, stay (by rw [hnw2, eI]; unfold fallTo; simp only; rw [if_neg cc]), s5, hD5⟩
            · rintro σ H5 ⟨t2, v6, v7, rfl, es2, s5, hD5⟩
              have en : ((M.n : Int) - 1).toNat = M.n - 1 := by omega
              rw [en] at es2
              exact ⟨t2, _, _, _, rfl, by rw [rowsTo_succ, turn_append, ← es1]; exact es2, s5, hD5⟩
          · rintro σ H4 ⟨t1, v4, v6, v7, rfl, es1, s4, hD4⟩
            have en : ((M.n : Int) - 1).toNat = M.n - 1 := by omega
            rw [en, rowsTo_all] at es1
            exact ⟨t1.1, t1.2, _, _, _, rfl, s4, hD4, es1⟩
      · refine iteF ?_
        walk_at "rd"
        have ec : c = closing M.steps pr closed := closing_of ⟨jj, ej, hk⟩
        rw [ec] at hD3
        exact q D H3 hD s3 hD3
end
/-! ## 30. The reader in the heap -/
def rf (a1 a2 a3 a4 a5 a6 : Addr) (inn : V) (hd : Tx) (sg : Nat) (wh : Bool) : List (Str × V) :=
  [("starts", .ref a1), ("steps", .ref a2), ("good", .ref a3), ("prices", .ref a4), ("states", .ref a5), ("costs", .ref a6), ("inner", inn), ("head", .str (S hd)), ("signs", .int (sg : Int)), ("whole", .bl wh)]
section
variable {a1 a2 a3 a4 a5 a6 : Addr} {inn : V} {hd : Tx} {sg : Nat} {wh : Bool}
theorem rf_starts : (rf a1 a2 a3 a4 a5 a6 inn hd sg wh).lookup ("starts" : Str) = some (V.ref a1) := by kernel_rfl
theorem rf_steps : (rf a1 a2 a3 a4 a5 a6 inn hd sg wh).lookup ("steps" : Str) = some (V.ref a2) := by kernel_rfl
theorem rf_good : (rf a1 a2 a3 a4 a5 a6 inn hd sg wh).lookup ("good" : Str) = some (V.ref a3) := by kernel_rfl
theorem rf_prices : (rf a1 a2 a3 a4 a5 a6 inn hd sg wh).lookup ("prices" : Str) = some (V.ref a4) := by kernel_rfl
theorem rf_states : (rf a1 a2 a3 a4 a5 a6 inn hd sg wh).lookup ("states" : Str) = some (V.ref a5) := by kernel_rfl
theorem rf_costs : (rf a1 a2 a3 a4 a5 a6 inn hd sg wh).lookup ("costs" : Str) = some (V.ref a6) := by kernel_rfl
theorem rf_inner : (rf a1 a2 a3 a4 a5 a6 inn hd sg wh).lookup ("inner" : Str) = some inn := by kernel_rfl
theorem rf_head : (rf a1 a2 a3 a4 a5 a6 inn hd sg wh).lookup ("head" : Str) = some (V.str (S hd)) := by kernel_rfl
theorem rf_signs : (rf a1 a2 a3 a4 a5 a6 inn hd sg wh).lookup ("signs" : Str) = some (V.int (sg : Int)) := by kernel_rfl
theorem rf_whole : (rf a1 a2 a3 a4 a5 a6 inn hd sg wh).lookup ("whole" : Str) = some (V.bl wh) := by kernel_rfl
theorem rf_m1 : (rf a1 a2 a3 a4 a5 a6 inn hd sg wh).lookup ("inner_costs" : Str) = none := by kernel_rfl
theorem rf_m2 : (rf a1 a2 a3 a4 a5 a6 inn hd sg wh).lookup ("cheapest" : Str) = none := by kernel_rfl
theorem rf_m3 : (rf a1 a2 a3 a4 a5 a6 inn hd sg wh).lookup ("closes" : Str) = none := by kernel_rfl
theorem rf_m4 : (rf a1 a2 a3 a4 a5 a6 inn hd sg wh).lookup ("fits" : Str) = none := by kernel_rfl
theorem rf_m5 : (rf a1 a2 a3 a4 a5 a6 inn hd sg wh).lookup ("take" : Str) = none := by kernel_rfl
theorem rf_m6 : (rf a1 a2 a3 a4 a5 a6 inn hd sg wh).lookup ("left" : Str) = none := by kernel_rfl
theorem rf_m7 : (rf a1 a2 a3 a4 a5 a6 inn hd sg wh).lookup ("hint" : Str) = none := by kernel_rfl
theorem rf_m8 : (rf a1 a2 a3 a4 a5 a6 inn hd sg wh).lookup ("pile" : Str) = none := by kernel_rfl
theorem rf_len : (rf a1 a2 a3 a4 a5 a6 inn hd sg wh).length < 1000 := by show 10 < 1000; decide
theorem rf_pinner (v : V) : putF "inner" v (rf a1 a2 a3 a4 a5 a6 inn hd sg wh) = rf a1 a2 a3 a4 a5 a6 v hd sg wh := by kernel_rfl
theorem rf_phead (z : Tx) : putF "head" (.str (S z)) (rf a1 a2 a3 a4 a5 a6 inn hd sg wh) = rf a1 a2 a3 a4 a5 a6 inn z sg wh := by kernel_rfl
theorem rf_psigns (z : Nat) : putF "signs" (.int (z : Int)) (rf a1 a2 a3 a4 a5 a6 inn hd sg wh) = rf a1 a2 a3 a4 a5 a6 inn hd z wh := by kernel_rfl
theorem rf_pwhole (z : Bool) : putF "whole" (.bl z) (rf a1 a2 a3 a4 a5 a6 inn hd sg wh) = rf a1 a2 a3 a4 a5 a6 inn hd sg z := by kernel_rfl
end
abbrev own3 (x a5 a6 : Addr) (H : Hp) : Hp := hide [x, a5, a6] H
/-- what a reader keeps in the heap -/
structure RData (C : Addr) (M : RM) (H : Hp) (x a5 a6 : Addr) (R : RS) (dx a1 a2 a3 a4 : Addr) (crs : List Addr) (inn : V) : Prop where
  ins : H x = some (.ins C dx (rf a1 a2 a3 a4 a5 a6 inn R.head R.signs R.whole))
  states : H a5 = some (.lst (nums ((R.stk.map (·.1)).reverse)))
  costs : H a6 = some (.lst (crs.map V.ref))
  ne : a5 ≠ a6
  starts : StartsAt (own3 x a5 a6 H) a1 M.starts
  steps : StepsAt (own3 x a5 a6 H) a2 M.steps
  good : own3 x a5 a6 H a3 = some (.lst (nums M.good))
  prices : own3 x a5 a6 H a4 = some (.lst (opts M.prices))
  tabs : TablesAt (own3 x a5 a6 H) crs ((R.stk.map (·.2)).reverse)
  inner : inn = .non ∨ ∃ ai, inn = .ref ai ∧ own3 x a5 a6 H ai = some (.lst (opts (innerOf M R)))
structure RdrAt (C : Addr) (M : RM) (H : Hp) (x a5 a6 : Addr) (R : RS) : Prop where
  mac : M.toMac.Ok
  prs : PricesOk M.toMac M.prices
  inv : RInv M R
  data : ∃ (dx a1 a2 a3 a4 : Addr) (crs : List Addr) (inn : V), RData C M H x a5 a6 R dx a1 a2 a3 a4 crs inn
/-- all but the reader's own three is kept -/
def KeepR (x a5 a6 : Addr) (H H' : Hp) : Prop := Same (own3 x a5 a6 H) (own3 x a5 a6 H')
theorem KeepR.refl (x a5 a6 : Addr) (H : Hp) : KeepR x a5 a6 H H := Same.refl _
theorem KeepR.trans {x a5 a6 : Addr} {H H1 H2 : Hp} (a : KeepR x a5 a6 H H1) (b : KeepR x a5 a6 H1 H2) : KeepR x a5 a6 H H2 := Same.trans a b
theorem KeepR.of {x a5 a6 : Addr} {H H' : Hp} (s : Same H H') : KeepR x a5 a6 H H' := hide_mono s
section
variable {C : Addr} {M : RM} {H H' : Hp} {x a5 a6 : Addr} {R : RS} {dx a1 a2 a3 a4 : Addr} {crs : List Addr} {inn : V}
theorem RData.mono (s : Same H H') (d : RData C M H x a5 a6 R dx a1 a2 a3 a4 crs inn) : RData C M H' x a5 a6 R dx a1 a2 a3 a4 crs inn :=
  ⟨s _ _ d.ins, s _ _ d.states, s _ _ d.costs, d.ne, d.starts.mono (hide_mono s), d.steps.mono (hide_mono s), hide_mono s _ _ d.good, hide_mono s _ _ d.prices, d.tabs.mono (hide_mono s), d.inner.imp id fun ⟨ai, e, h⟩ => ⟨ai, e, hide_mono s _ _ h⟩⟩
theorem RdrAt.mono (s : Same H H') (r : RdrAt C M H x a5 a6 R) : RdrAt C M H' x a5 a6 R := by
  obtain ⟨dx, a1, a2, a3, a4, crs, inn, d⟩ := r.data
  exact ⟨r.mac, r.prs, r.inv, dx, a1, a2, a3, a4, crs, inn, d.mono s⟩
/-- the tables within the rest of the heap -/
theorem RData.same (d : RData C M H x a5 a6 R dx a1 a2 a3 a4 crs inn) : Same (own3 x a5 a6 H) H := hide_same _ _
theorem mem3 {x a5 a6 : Addr} : x ∈ [x, a5, a6] ∧ a5 ∈ [x, a5, a6] ∧ a6 ∈ [x, a5, a6] := ⟨by simp, by simp, by simp⟩
theorem atL1 {α β : Type} (f : α → β) (p : α) (r : List α) : atI ((p :: r).reverse.map f) (-1) = some (f p) := by
  rw [List.reverse_cons, List.map_append]
  exact atI_last _ _
theorem atL2 {α β : Type} (f : α → β) (s p : α) (r : List α) : atI ((s :: p :: r).reverse.map f) (-2) = some (f p) := by
  unfold atI ixN
  have hl : ((s :: p :: r).reverse.map f).length = r.length + 2 := by simp
  rw [hl, if_neg (by decide), if_pos (by omega)]
  show ((s :: p :: r).reverse.map f)[((-2 : Int) + ((r.length + 2 : Nat) : Int)).toNat]? = some (f p)
  rw [show ((-2 : Int) + ((r.length + 2 : Nat) : Int)).toNat = r.length by omega]
  simp
theorem tabs_snoc {G : Hp} {c : Cs} : ∀ {crs : List Addr} {cs : List Cs}, TablesAt G crs (cs ++ [c]) → ∃ (b : Addr) (crs' : List Addr), crs = crs' ++ [b] ∧ TablesAt G crs' cs ∧ G b = some (.lst (opts c))
  | _, [], .cons h .nil => ⟨_, [], rfl, .nil, h⟩
  | _, _ :: _, .cons h t => by
    obtain ⟨b, crs', e, h1, h2⟩ := tabs_snoc t
    exact ⟨b, _ :: crs', by rw [e]; rfl, .cons h h1, h2⟩
theorem tabs_get1 {G : Hp} {p : Nat × Cs} {r : List (Nat × Cs)} (h : TablesAt G crs (((p :: r).map (·.2)).reverse)) : ∃ (b : Addr) (crs' : List Addr), crs = crs' ++ [b] ∧ TablesAt G crs' ((r.map (·.2)).reverse) ∧ G b = some (.lst (opts p.2)) := by
  rw [List.map_cons, List.reverse_cons] at h
  exact tabs_snoc h
theorem nums_rev (l : List (Nat × Cs)) : nums ((l.map (·.1)).reverse) = (l.reverse).map fun p => V.int (p.1 : Int) := by
  unfold nums
  rw [← List.map_reverse, List.map_map]
  rfl
theorem RData.nx5 (d : RData C M H x a5 a6 R dx a1 a2 a3 a4 crs inn) : x ≠ a5 := ne_of d.ins d.states (by intro q; cases q)
theorem RData.nx6 (d : RData C M H x a5 a6 R dx a1 a2 a3 a4 crs inn) : x ≠ a6 := ne_of d.ins d.costs (by intro q; cases q)
theorem inner_stk {M : RM} {R R' : RS} (h : R'.stk = R.stk) : innerOf M R' = innerOf M R := by
  unfold innerOf closedOf
  rw [h]
/-- the reader's own fields are changed, the pile stays -/
theorem RData.put (d : RData C M H x a5 a6 R dx a1 a2 a3 a4 crs inn) (R' : RS) (inn' : V) (hs : R'.stk = R.stk) (hi : inn' = .non ∨ ∃ ai, inn' = .ref ai ∧ own3 x a5 a6 H ai = some (.lst (opts (innerOf M R')))) :
    RData C M (upd H x (.ins C dx (rf a1 a2 a3 a4 a5 a6 inn' R'.head R'.signs R'.whole))) x a5 a6 R' dx a1 a2 a3 a4 crs inn' := by
  have e : own3 x a5 a6 (upd H x (.ins C dx (rf a1 a2 a3 a4 a5 a6 inn' R'.head R'.signs R'.whole))) = own3 x a5 a6 H := hide_upd mem3.1
  refine ⟨upd_same, by rw [upd_ne d.nx5.symm, hs]; exact d.states, by rw [upd_ne d.nx6.symm]; exact d.costs, d.ne, by rw [e]; exact d.starts, by rw [e]; exact d.steps, by rw [e]; exact d.good, by rw [e]; exact d.prices, by rw [e, hs]; exact d.tabs, by rw [e]; exact hi⟩
theorem KeepR.put {o : HO} : KeepR x a5 a6 H (upd H x o) := by
  unfold KeepR
  rw [show own3 x a5 a6 (upd H x o) = own3 x a5 a6 H from hide_upd mem3.1]
  exact Same.refl _
theorem KeepR.put5 {o : HO} : KeepR x a5 a6 H (upd H a5 o) := by
  unfold KeepR
  rw [show own3 x a5 a6 (upd H a5 o) = own3 x a5 a6 H from hide_upd mem3.2.1]
  exact Same.refl _
theorem KeepR.put6 {o : HO} : KeepR x a5 a6 H (upd H a6 o) := by
  unfold KeepR
  rw [show own3 x a5 a6 (upd H a6 o) = own3 x a5 a6 H from hide_upd mem3.2.2]
  exact Same.refl _
theorem RData.own_new (d : RData C M H x a5 a6 R dx a1 a2 a3 a4 crs inn) {H' : Hp} {p : Addr} {o : HO} (hp : H p = none) (h : H' p = some o) : own3 x a5 a6 H' p = some o := by
  show hide [x, a5, a6] H' p = some o
  rw [hide_get]
  · exact h
  · intro hm
    simp only [List.mem_cons, List.not_mem_nil, or_false] at hm
    rcases hm with rfl | rfl | rfl
    · rw [d.ins] at hp; cases hp
    · rw [d.states] at hp; cases hp
    · rw [d.costs] at hp; cases hp
end
section
variable {K : PySem.W.Frag} {σ : L2.St} {H : Hp} {D : Ends}
theorem i_sfld {ta tv : TE} {f : Str} (h : tv σ H fun y H1 => ta σ H1 fun x H2 => ∃ a C dx fs, x = .ref a ∧ H2 a = some (.ins C dx fs) ∧ Cls K C ∧ NoAttr K C f ∧ fs.length < 1000 ∧ D.nx σ (upd H2 a (.ins C dx (putF f y fs)))) : sFld K ta tv f D σ H := h
theorem i_sfldv {a C dx : Addr} {fs : List (Str × V)} {f : Str} {y : V} {N : L2.St → Hp → Prop} (e : H a = some (.ins C dx fs)) (c : Cls K C) (n : NoAttr K C f) (l : fs.length < 1000) (q : N σ (upd H a (.ins C dx (putF f y fs)))) :
    ∃ a' C' dx' fs', V.ref a = .ref a' ∧ H a' = some (.ins C' dx' fs') ∧ Cls K C' ∧ NoAttr K C' f ∧ fs'.length < 1000 ∧ N σ (upd H a' (.ins C' dx' (putF f y fs'))) := ⟨a, C, dx, fs, rfl, e, c, n, l, q⟩
end
theorem cx_K {CX : CXT} {P : Program} {w : World} {K : PySem.W.Frag} {mg : Str → Option Value} {base : Heap} {N : List Str} {q : Str} {sc : Scope} {f : Addr} {cdv : Value} {A : Around} {outer : List Env} {s : Shared} {H : Hp} {E : XK} :
    (cxOf CX P w K mg base N q sc f cdv A outer s H E).K = K := rfl
local macro_rules | `(tactic| walk_at "rd") => `(tactic| (repeat (first
  | with_reducible refine i_seq ?_ | with_reducible refine i_asg ?_ | with_reducible refine i_gname ?_ | ((with_reducible show tVar _ _ _ _); refine i_var (by rfl) ?_) | with_reducible refine i_c ?_
  | with_reducible refine i_op ?_ | with_reducible refine i_I0 ?_ | with_reducible refine i_k ?_ | with_reducible refine i_test ?_ | with_reducible refine i_tb ?_ | with_reducible refine i_cb ?_ | with_reducible refine i_cons ?_ | with_reducible refine i_nil ?_
  | with_reducible refine i_ifs ?_ | with_reducible refine i_ret ?_ | with_reducible refine i_next ?_ | with_reducible refine i_drop ?_ | with_reducible refine i_call ?_ | with_reducible refine i_un ?_ | with_reducible refine i_neg ?_
  | with_reducible refine i_mod (by decide) ?_ | with_reducible refine i_fdv ⟨by decide, by decide⟩ ?_ | with_reducible refine i_mulR (by decide) ?_ | with_reducible refine i_mulL (by decide) ?_ | with_reducible refine i_eq rfl ?_ | with_reducible refine i_ne rfl ?_ | with_reducible refine i_not ?_ | with_reducible refine i_notV ?_ | with_reducible refine i_and ?_ | with_reducible refine i_or ?_ | with_reducible refine i_andV ?_ | with_reducible refine i_orV ?_
  | with_reducible refine i_tup ?_ | with_reducible refine i_lst ?_ | with_reducible refine i_sl ?_ | with_reducible refine i_nopart ?_ | with_reducible refine i_part ?_ | with_reducible refine i_pint ?_ | with_reducible refine i_fld ?_ | with_reducible refine i_sfld ?_ | with_reducible refine i_meth ?_ | with_reducible refine i_isNN ?_ | with_reducible refine i_notNN ?_ | with_reducible refine i_inS ?_ | with_reducible refine i_rng1 ?_ | with_reducible refine i_rng2 ?_ | with_reducible refine i_ilist ?_ | with_reducible refine i_itup ?_ | with_reducible refine i_for ?_ | with_reducible refine i_lc ?_ | with_reducible refine i_yes ?_ | with_reducible refine iteT ?_ | with_reducible refine iteF ?_ | with_reducible refine i_m1 ?_ | with_reducible refine i_isS ?_ | with_reducible refine i_bm ?_ | with_reducible refine i_bm0 ?_ | with_reducible refine i_maxI ?_ | with_reducible refine i_minI ?_
  | with_reducible refine i_fldv (by assumption) (Txt.cl (by assumption)) (Txt.nStarts (by assumption)) rf_starts ?_
  | with_reducible refine i_fldv (by assumption) (Txt.cl (by assumption)) (Txt.nSteps (by assumption)) rf_steps ?_
  | with_reducible refine i_fldv (by assumption) (Txt.cl (by assumption)) (Txt.nGood (by assumption)) rf_good ?_
  | with_reducible refine i_fldv (by assumption) (Txt.cl (by assumption)) (Txt.nPrices (by assumption)) rf_prices ?_
  | with_reducible refine i_fldv (by assumption) (Txt.cl (by assumption)) (Txt.nStates (by assumption)) rf_states ?_
  | with_reducible refine i_fldv (by assumption) (Txt.cl (by assumption)) (Txt.nCosts (by assumption)) rf_costs ?_
  | with_reducible refine i_fldv (by assumption) (Txt.cl (by assumption)) (Txt.nInner (by assumption)) rf_inner ?_
  | with_reducible refine i_fldv (by assumption) (Txt.cl (by assumption)) (Txt.nHead (by assumption)) rf_head ?_
  | with_reducible refine i_fldv (by assumption) (Txt.cl (by assumption)) (Txt.nSigns (by assumption)) rf_signs ?_
  | with_reducible refine i_fldv (by assumption) (Txt.cl (by assumption)) (Txt.nWhole (by assumption)) rf_whole ?_)))
local macro_rules | `(tactic| walk_at "rt") => `(tactic| (repeat (first
  | with_reducible refine i_gname ?_ | ((with_reducible show tVar _ _ _ _); refine i_var (by rfl) ?_) | with_reducible refine i_c ?_
  | with_reducible refine i_op ?_ | with_reducible refine i_I0 ?_ | with_reducible refine i_k ?_ | with_reducible refine i_test ?_ | with_reducible refine i_tb ?_ | with_reducible refine i_cb ?_ | with_reducible refine i_cons ?_ | with_reducible refine i_nil ?_
  | with_reducible refine i_ifs ?_ | with_reducible refine i_ret ?_ | with_reducible refine i_next ?_ | with_reducible refine i_drop ?_ | with_reducible refine i_call ?_ | with_reducible refine i_un ?_ | with_reducible refine i_neg ?_
  | with_reducible refine i_mod (by decide) ?_ | with_reducible refine i_fdv ⟨by decide, by decide⟩ ?_ | with_reducible refine i_mulR (by decide) ?_ | with_reducible refine i_mulL (by decide) ?_ | with_reducible refine i_eq rfl ?_ | with_reducible refine i_ne rfl ?_ | with_reducible refine i_not ?_ | with_reducible refine i_notV ?_ | with_reducible refine i_and ?_ | with_reducible refine i_or ?_ | with_reducible refine i_andV ?_ | with_reducible refine i_orV ?_
  | with_reducible refine i_tup ?_ | with_reducible refine i_lst ?_ | with_reducible refine i_sl ?_ | with_reducible refine i_nopart ?_ | with_reducible refine i_part ?_ | with_reducible refine i_pint ?_ | with_reducible refine i_fld ?_ | with_reducible refine i_sfld ?_ | with_reducible refine i_meth ?_ | with_reducible refine i_isNN ?_ | with_reducible refine i_notNN ?_ | with_reducible refine i_inS ?_ | with_reducible refine i_rng1 ?_ | with_reducible refine i_rng2 ?_ | with_reducible refine i_ilist ?_ | with_reducible refine i_itup ?_ | with_reducible refine i_for ?_ | with_reducible refine i_lc ?_ | with_reducible refine i_yes ?_ | with_reducible refine iteT ?_ | with_reducible refine iteF ?_ | with_reducible refine i_m1 ?_ | with_reducible refine i_isS ?_ | with_reducible refine i_bm ?_ | with_reducible refine i_bm0 ?_ | with_reducible refine i_maxI ?_ | with_reducible refine i_minI ?_
  | with_reducible refine i_fldv (by assumption) (Txt.cl (by assumption)) (Txt.nStarts (by assumption)) rf_starts ?_
  | with_reducible refine i_fldv (by assumption) (Txt.cl (by assumption)) (Txt.nSteps (by assumption)) rf_steps ?_
  | with_reducible refine i_fldv (by assumption) (Txt.cl (by assumption)) (Txt.nGood (by assumption)) rf_good ?_
  | with_reducible refine i_fldv (by assumption) (Txt.cl (by assumption)) (Txt.nPrices (by assumption)) rf_prices ?_
  | with_reducible refine i_fldv (by assumption) (Txt.cl (by assumption)) (Txt.nStates (by assumption)) rf_states ?_
  | with_reducible refine i_fldv (by assumption) (Txt.cl (by assumption)) (Txt.nCosts (by assumption)) rf_costs ?_
  | with_reducible refine i_fldv (by assumption) (Txt.cl (by assumption)) (Txt.nInner (by assumption)) rf_inner ?_
  | with_reducible refine i_fldv (by assumption) (Txt.cl (by assumption)) (Txt.nHead (by assumption)) rf_head ?_
  | with_reducible refine i_fldv (by assumption) (Txt.cl (by assumption)) (Txt.nSigns (by assumption)) rf_signs ?_
  | with_reducible refine i_fldv (by assumption) (Txt.cl (by assumption)) (Txt.nWhole (by assumption)) rf_whole ?_)))
local macro_rules | `(tactic| walk_at "rs") => `(tactic| (repeat (first
  | with_reducible refine i_gname ?_ | ((with_reducible show tVar _ _ _ _); refine i_var (by rfl) ?_) | with_reducible refine i_c ?_
  | with_reducible refine i_op ?_ | with_reducible refine i_I0 ?_ | with_reducible refine i_k ?_ | with_reducible refine i_test ?_ | with_reducible refine i_tb ?_ | with_reducible refine i_cb ?_ | with_reducible refine i_cons ?_ | with_reducible refine i_nil ?_
  | with_reducible refine i_ret ?_ | with_reducible refine i_next ?_ | with_reducible refine i_drop ?_ | with_reducible refine i_call ?_ | with_reducible refine i_un ?_ | with_reducible refine i_neg ?_
  | with_reducible refine i_mod (by decide) ?_ | with_reducible refine i_fdv ⟨by decide, by decide⟩ ?_ | with_reducible refine i_mulR (by decide) ?_ | with_reducible refine i_mulL (by decide) ?_ | with_reducible refine i_eq rfl ?_ | with_reducible refine i_ne rfl ?_ | with_reducible refine i_not ?_ | with_reducible refine i_notV ?_ | with_reducible refine i_and ?_ | with_reducible refine i_or ?_ | with_reducible refine i_andV ?_ | with_reducible refine i_orV ?_
  | with_reducible refine i_tup ?_ | with_reducible refine i_lst ?_ | with_reducible refine i_sl ?_ | with_reducible refine i_nopart ?_ | with_reducible refine i_part ?_ | with_reducible refine i_pint ?_ | with_reducible refine i_fld ?_ | with_reducible refine i_sfld ?_ | with_reducible refine i_meth ?_ | with_reducible refine i_isNN ?_ | with_reducible refine i_notNN ?_ | with_reducible refine i_inS ?_ | with_reducible refine i_rng1 ?_ | with_reducible refine i_rng2 ?_ | with_reducible refine i_ilist ?_ | with_reducible refine i_itup ?_ | with_reducible refine i_for ?_ | with_reducible refine i_lc ?_ | with_reducible refine i_yes ?_ | with_reducible refine iteT ?_ | with_reducible refine iteF ?_ | with_reducible refine i_m1 ?_ | with_reducible refine i_isS ?_ | with_reducible refine i_bm ?_ | with_reducible refine i_bm0 ?_ | with_reducible refine i_maxI ?_ | with_reducible refine i_minI ?_
  | with_reducible refine i_fldv (by assumption) (Txt.cl (by assumption)) (Txt.nStarts (by assumption)) rf_starts ?_
  | with_reducible refine i_fldv (by assumption) (Txt.cl (by assumption)) (Txt.nSteps (by assumption)) rf_steps ?_
  | with_reducible refine i_fldv (by assumption) (Txt.cl (by assumption)) (Txt.nGood (by assumption)) rf_good ?_
  | with_reducible refine i_fldv (by assumption) (Txt.cl (by assumption)) (Txt.nPrices (by assumption)) rf_prices ?_
  | with_reducible refine i_fldv (by assumption) (Txt.cl (by assumption)) (Txt.nStates (by assumption)) rf_states ?_
  | with_reducible refine i_fldv (by assumption) (Txt.cl (by assumption)) (Txt.nCosts (by assumption)) rf_costs ?_
  | with_reducible refine i_fldv (by assumption) (Txt.cl (by assumption)) (Txt.nInner (by assumption)) rf_inner ?_
  | with_reducible refine i_fldv (by assumption) (Txt.cl (by assumption)) (Txt.nHead (by assumption)) rf_head ?_
  | with_reducible refine i_fldv (by assumption) (Txt.cl (by assumption)) (Txt.nSigns (by assumption)) rf_signs ?_
  | with_reducible refine i_fldv (by assumption) (Txt.cl (by assumption)) (Txt.nWhole (by assumption)) rf_whole ?_)))
/-! ## 31. The costs within -/
def spInner (C : Addr) : Sp := fun vs H Q _ => ∃ (x a5 a6 : Addr) (M : RM) (R : RS), vs = [.ref x] ∧ RdrAt C M H x a5 a6 R ∧
  ∀ (ai : Addr) (H' : Hp), KeepR x a5 a6 H H' → RdrAt C M H' x a5 a6 R → own3 x a5 a6 H' ai = some (.lst (opts (innerOf M R))) → Q (.ref ai) H'
abbrev NInner : List Str := ["self", "closed", "state", "row"]
theorem scInner : FnScope NInner ["self"] (defScope sInner) := ⟨rfl, rfl, rfl, by decide +kernel, rfl, by decide +kernel, by decide +kernel⟩
theorem foldl_set_len : ∀ (g : List Nat) (c : Cs), (g.foldl (fun c s => c.set s (some 0)) c).length = c.length
  | [], c => rfl
  | a :: r, c => by rw [List.foldl_cons, foldl_set_len r]; simp
section
variable {P : Program} {w : World} {K : PySem.W.Frag} {mg : Str → Option Value} {base : Heap} {C : Addr}
theorem ok_inner {f : Addr} {fd : FuncData} (F : Fun K "inner_costs" "Reader.inner_costs" sInner f fd) (T : Txt K mg C) (cal_closing_costs : Cal P w K mg base CX0 "closing_costs" 1 ["steps", "prices", "closed"] spClosing) :
    FnOk P w K mg base CX0 2 f fd ["self"] (spInner C) := by
  refine F.ok scInner (fun vs H Q E h => ?_) (fun cdv A outer s H vs Q E hr h => ?_)
  · obtain ⟨x, a5, a6, M, R, rfl, _⟩ := h
    rfl
  · obtain ⟨x, a5, a6, M, R, rfl, ⟨hM, hP, hI, dx, a1, a2, a3, a4, crs, inn, d⟩, q⟩ := h
    refine ⟨_, (pss_cons (ps_if (pt_cmpR op_isNN (pe_fld (pv 0) rfl) pe_non (nomark _))
      (pss_cons (ps_setLc (i := 1) (own := [("row", 3)]) (g := gName 3) (tt := tYes) rfl scInner.nd rfl rfl (sw_true rfl rfl rfl (by decide +kernel)) (pi_list (pe_fld (pv 0) rfl)) (blkOk_by (own := [("row", 3)]) (N := NInner) (sc := defScope sInner) (by decide +kernel)) (fun _ _ _ _ _ => pg_name (i := 3) scInner.nd rfl (Or.inl rfl)) (fun _ _ _ _ _ => pts_nil) (fun _ _ _ _ _ => pe_non))
    (pss_cons (ps_if (pt_cmpR op_eq (pe_callB call_lenQ (by rfl) T.len (by decide +kernel) (pa_cons (pe_fld (pv 0) rfl) pa_nil)) pe_int (nomark _))
      (pss_one (ps_for PassesOwn.never rfl (pi_list (pe_fld (pv 0) rfl)) (pg_name (i := 2) scInner.nd rfl (Or.inl rfl))
      (pss_one (ps_asg pe_int (pg_sub (pv 1) (pv 2) set_list)))))
      (pss_one (ps_for PassesOwn.never rfl (pi_range1 rfl T.range (pa_cons (pe_callB call_lenQ (by rfl) T.len (by decide +kernel) (pa_cons (pe_fld (pv 0) rfl) pa_nil)) pa_nil)) (pg_name (i := 2) scInner.nd rfl (Or.inl rfl))
      (pss_one (ps_asg (pe_ix ix_list (pe_ix ix_list (pe_fld (pv 0) rfl) (pe_un un_neg pe_int) (fun _ _ => rfl)) (pe_ix ix_list (pe_ix ix_list (pe_fld (pv 0) rfl) (pe_ix ix_list (pe_fld (pv 0) rfl) (pe_un un_neg pe_int) (fun _ _ => rfl)) (fun _ _ => rfl)) (pv 2) (fun _ _ => rfl)) (fun _ _ => rfl)) (pg_sub (pv 1) (pv 2) set_list))))))
    (pss_one (ps_fld (pv 0) (pcal cal_closing_costs (hr.mono (by decide)) (pa_cons (pe_fld (pv 0) rfl) (pa_cons (pe_fld (pv 0) rfl) (pa_cons (pv 1) pa_nil)))) rfl))))
      pss_nil)
    (pss_one (ps_ret (pe_fld (pv 0) rfl)))), ?_⟩
    simp only [cx_K]
    have hx := d.ins
    have sO := hide_same [x, a5, a6] H
    walk_at "rd"
    rcases d.inner with rfl | ⟨ai, rfl, hai⟩
    · walk_at "rd"
      refine iT non_non ?_
      walk_at "rd"
      obtain ⟨rs, hrs, prr⟩ := d.steps.mono sO
      have hrl : (rs.map V.ref).length = M.n := by rw [List.length_map]; exact Paired.length prr
      have hn2 := hM.small
      refine ⟨a2, rfl, ⟨_, .of hrs⟩, nones_lc hrs (by rw [hrl]; omega) fun D H1 hD s1 hD1 => ?_⟩
      rw [hrl] at hD1
      have hx1 := s1 _ _ hx
      -- behind the table «closed»
      have fin : ∀ (D0 : Ends) (H2 : Hp) (v2 : Option V), D0.rt = Q → Same H H2 → H2 D = some (.lst (opts (closedOf M R))) →
          sFld K (tVar 0) (tCall spClosing [] E0 (tCons (tFld K (tVar 0) "steps") (tCons (tFld K (tVar 0) "prices") (tCons (tVar 1) tNil)))) "inner" { D0 with nx := tRet (tFld K (tVar 0) "inner") D0 } [some (.ref x), some (.ref D), v2, none] H2 := by
        intro D0 H2 v2 hD0 s2 hD2
        have hx2 := s2 _ _ hx
        have d2 := d.mono s2
        walk_at "rd"
        refine ⟨a2, a4, D, M.toMac, M.prices, closedOf M R, rfl, d2.steps.mono (hide_same _ _), hM, hide_same _ _ _ _ d2.prices, hP.len, hD2, closed_len M R, fun D2 H3 hn s3 hD3 => ?_⟩
        have hx3 := s3 _ _ hx2
        have d3 := d2.mono s3
        walk_at "rd"
        refine i_sfldv hx3 T.cl T.nInner rf_len ?_
        rw [rf_pinner]
        have ho := d2.own_new hn hD3
        have d4 := d3.put R (.ref D2) rfl (.inr ⟨D2, rfl, ho⟩)
        have hx4 := d4.ins
        walk_at "rd"
        rw [hD0]
        refine q D2 _ ((KeepR.of (s2.trans s3)).trans KeepR.put) ⟨hM, hP, hI, dx, a1, a2, a3, a4, crs, _, d4⟩ ?_
        rw [show own3 x a5 a6 (upd H3 x (.ins C dx (rf a1 a2 a3 a4 a5 a6 (.ref D2) R.head R.signs R.whole))) = own3 x a5 a6 H3 from hide_upd mem3.1]
        exact ho
      have hst1 := s1 _ _ d.states
      walk_at "rd"
      refine i_lenl (.of hst1) ?_
      rw [List.length_map, List.length_reverse, List.length_map]
      walk_at "rd"
      cases hR : R.stk with
      | nil =>
        refine iT (by simp) ?_
        have hg1 := s1 _ _ (sO _ _ d.good)
        walk_at "rd"
        refine ⟨a3, rfl, ⟨_, .of hg1⟩, for_list (K := K) (a := a3) (xs := nums M.good) (fun i σ H' => ∃ v2, σ = [some (.ref x), some (.ref D), v2, none] ∧ Same H H' ∧ H' D = some (.lst (opts ((M.good.take i).foldl (fun c s => c.set s (some 0)) (List.replicate M.n none)))))
          ⟨none, rfl, s1, hD1⟩ (fun i σ H' _ ⟨_, _, sm, _⟩ => .of (sm _ _ (sO _ _ d.good))) ?_ ?_⟩
        · rintro i y σ H' hi ⟨v2, rfl, sm, hD'⟩
          obtain ⟨g, hg, rfl⟩ := get_map hi
          have hgl := hM.good_lt _ (List.mem_of_getElem? hg)
          walk_at "rd"
          refine i_gsub ?_
          walk_at "rd"
          refine i_setL hD' (by rw [List.length_map, foldl_set_len, List.length_replicate]; exact hgl) ?_
          rw [show (V.int 0) = V.int ((0 : Nat) : Int) from rfl, opts_set]
          refine ⟨_, rfl, smut sm hD _, ?_⟩
          rw [upd_same, take_snoc hg, List.foldl_append]
          rfl
        · rintro σ H' ⟨v2, rfl, sm, hD'⟩
          rw [List.length_map, List.take_length] at hD'
          refine fin _ H' v2 rfl sm ?_
          rw [hD']
          unfold closedOf
          rw [hR]
      | cons pc r =>
        obtain ⟨p, c⟩ := pc
        obtain ⟨hpn, hcn, hcs⟩ := hI.stk (p, c) (by rw [hR]; exact List.mem_cons_self)
        have htabs := d.tabs
        rw [hR] at htabs
        obtain ⟨b, crs', rfl, _, hb⟩ := tabs_get1 htabs
        have est : atI (nums ((R.stk.map (·.1)).reverse)) (-1) = some (V.int (p : Int)) := by
          rw [nums_rev, hR]
          exact atL1 (fun q : Nat × Cs => V.int (q.1 : Int)) (p, c) r
        have ecr : atI ((crs' ++ [b]).map V.ref) (-1) = some (V.ref b) := by
          rw [List.map_append]
          exact atI_last _ _
        refine iF (by rw [dec_int]; simp; omega) ?_
        walk_at "rd"
        refine i_lenl (.of (s1 _ _ hrs)) ?_
        rw [hrl]
        walk_at "rd"
        refine ⟨M.n, rfl, by omega, by omega, for_range (n := M.n) (fun i σ H' => ∃ (v2 : Option V) (cs : Cs), σ = [some (.ref x), some (.ref D), v2, none] ∧ Same H H' ∧ H' D = some (.lst (opts cs)) ∧ cs.length = M.n ∧ ∀ j, gt cs j = if j < i then gt c (sp M.steps p j) else none)
          ⟨none, _, rfl, s1, hD1, List.length_replicate, fun j => by rw [gt_rep]; split <;> first | omega | rfl⟩ ?_ ?_⟩
        · rintro i σ H' hi ⟨v2, cs, rfl, sm, hD', hcl, hcs'⟩
          have e0 : (0 + (i : Int)) = (i : Int) := by omega
          have hx' := sm _ _ hx
          have hsp := sp_lt hM p i
          obtain ⟨rs', rr, row, e1, e2, e3, e4⟩ := steps_get hM (d.steps.mono (sO.trans sm)) hpn hi
          have hat := opts_at (c := c) (s := sp M.steps p i) (by rw [hcn]; exact hsp)
          walk_at "rd"
          refine i_ixl (.of (sm _ _ d.costs)) ecr ?_
          walk_at "rd"
          refine i_ixl (.of (sm _ _ d.states)) est ?_
          refine i_ixl (.of e1) e2 ?_
          walk_at "rd"
          refine i_ixl (.of e3) (by rw [e0]; exact e4) ?_
          refine i_ixl (.of (sm _ _ (sO _ _ hb))) hat ?_
          walk_at "rd"
          refine i_gsub ?_
          walk_at "rd"
          rw [e0]
          refine i_setL hD' (by rw [List.length_map, hcl]; exact hi) ?_
          refine ⟨_, cs.set i (gt c (sp M.steps p i)), rfl, smut sm hD _, ?_, by rw [List.length_set]; exact hcl, fun j => ?_⟩
          · rw [upd_same]
            unfold opts
            rw [List.map_set]
          · rw [gt_set, hcs']
            by_cases h : i = j
            · subst h
              rw [if_pos ⟨rfl, by rw [hcl]; exact hi⟩, if_pos (by omega)]
            · rw [if_neg (fun z => h z.1)]
              by_cases h2 : j < i
              · rw [if_pos h2, if_pos (by omega)]
              · rw [if_neg h2, if_neg (by omega)]
        · rintro σ H' ⟨v2, cs, rfl, sm, hD', hcl, hcs'⟩
          refine fin _ H' v2 rfl sm ?_
          rw [hD']
          have e : cs = closedOf M R := gt_ext (by rw [hcl, closed_len]) fun j hj => by
            rw [hcl] at hj
            rw [hcs', if_pos hj]
            obtain ⟨stk, hd, sg, wh⟩ := R
            cases hR
            exact (closed_cons M p c r hd sg wh hj).symm
          rw [e]
    · walk_at "rd"
      refine iF (decide_eq_false (by intro e; cases e)) ?_
      walk_at "rd"
      exact q ai H (KeepR.refl _ _ _ _) ⟨hM, hP, hI, dx, a1, a2, a3, a4, crs, _, d⟩ hai
end
/-! ## 32. Closes, the pile -/
def spCloses (C : Addr) : Sp := fun vs H Q _ => ∃ (x a5 a6 : Addr) (M : RM) (R : RS), vs = [.ref x] ∧ RdrAt C M H x a5 a6 R ∧ Q (.bl (closes M R)) H
abbrev NCloses : List Str := ["self"]
theorem scCloses : FnScope NCloses ["self"] (defScope sCloses) := ⟨rfl, rfl, rfl, by decide +kernel, rfl, by decide +kernel, by decide +kernel⟩
def spPile (C : Addr) : Sp := fun vs H Q _ => ∃ (x a5 a6 : Addr) (M : RM) (R : RS), vs = [.ref x] ∧ RdrAt C M H x a5 a6 R ∧ ∀ (p : Addr) (H' : Hp), Same H H' → H p = none → H' p = some (.lst (nums ((R.stk.map (·.1)).reverse))) → Q (.ref p) H'
abbrev NPile : List Str := ["self"]
theorem scPile : FnScope NPile ["self"] (defScope sPile) := ⟨rfl, rfl, rfl, by decide +kernel, rfl, by decide +kernel, by decide +kernel⟩
section
variable {P : Program} {w : World} {K : PySem.W.Frag} {mg : Str → Option Value} {base : Heap} {C : Addr}
theorem ok_pile {f : Addr} {fd : FuncData} (F : Fun K "pile" "Reader.pile" sPile f fd) (T : Txt K mg C) : FnOk P w K mg base CX0 1 f fd ["self"] (spPile C) := by
  refine F.ok scPile (fun vs H Q E h => ?_) (fun cdv A outer s H vs Q E hr h => ?_)
  · obtain ⟨x, a5, a6, M, R, rfl, _⟩ := h
    rfl
  · obtain ⟨x, a5, a6, M, R, rfl, ⟨hM, hP, hI, dx, a1, a2, a3, a4, crs, inn, d⟩, q⟩ := h
    refine ⟨_, (pss_one (ps_ret (pe_callTy call_listOf (by rfl) T.list (by decide +kernel) (pa_cons (pe_fld (pv 0) rfl) pa_nil)))), ?_⟩
    simp only [cx_K]
    have hx := d.ins
    walk_at "rd"
    exact i_listOf (.of d.states) fun l hl => q l _ (same_new hl _) hl upd_same
theorem ok_closes {f : Addr} {fd : FuncData} (F : Fun K "closes" "Reader.closes" sCloses f fd) (T : Txt K mg C) : FnOk P w K mg base CX0 1 f fd ["self"] (spCloses C) := by
  refine F.ok scCloses (fun vs H Q E h => ?_) (fun cdv A outer s H vs Q E hr h => ?_)
  · obtain ⟨x, a5, a6, M, R, rfl, _⟩ := h
    rfl
  · obtain ⟨x, a5, a6, M, R, rfl, ⟨hM, hP, hI, dx, a1, a2, a3, a4, crs, inn, d⟩, q⟩ := h
    refine ⟨_, (pss_cons (ps_if (pt_cmpR op_eq (pe_callB call_lenQ (by rfl) T.len (by decide +kernel) (pa_cons (pe_fld (pv 0) rfl) pa_nil)) pe_int (nomark _))
      (pss_one (ps_ret pe_bl))
      pss_nil)
    (pss_cons (ps_if (pt_cmpR op_eq (pe_callB call_lenQ (by rfl) T.len (by decide +kernel) (pa_cons (pe_fld (pv 0) rfl) pa_nil)) pe_int (nomark _))
      (pss_one (ps_ret (pe_cmpR op_in_seq (pe_ix ix_list (pe_fld (pv 0) rfl) pe_int (fun _ _ => rfl)) (pe_fld (pv 0) rfl) rfl)))
      pss_nil)
    (pss_one (ps_ret (pe_cmpR op_notNN (pe_ix ix_list (pe_ix ix_list (pe_fld (pv 0) rfl) (pe_un un_neg pe_int) (fun _ _ => rfl)) (pe_ix ix_list (pe_ix ix_list (pe_fld (pv 0) rfl) (pe_ix ix_list (pe_fld (pv 0) rfl) (pe_un un_neg pe_int) (fun _ _ => rfl)) (fun _ _ => rfl)) (pe_ix ix_list (pe_fld (pv 0) rfl) (pe_un un_neg pe_int) (fun _ _ => rfl)) (fun _ _ => rfl)) (fun _ _ => rfl)) pe_non (nomark _)))))), ?_⟩
    simp only [cx_K]
    have hx := d.ins
    have sO := hide_same [x, a5, a6] H
    walk_at "rd"
    refine i_lenl (.of d.states) ?_
    rw [List.length_map, List.length_reverse, List.length_map]
    walk_at "rd"
    unfold closes at q
    have est := d.states
    cases hR : R.stk with
    | nil =>
      rw [hR] at q
      refine iT (by simp) ?_
      walk_at "rd"
      exact q
    | cons pc r =>
      obtain ⟨s0, c0⟩ := pc
      refine iF (by rw [dec_int]; simp; omega) ?_
      walk_at "rd"
      refine i_lenl (.of d.states) ?_
      rw [List.length_map, List.length_reverse, List.length_map]
      walk_at "rd"
      cases r with
      | nil =>
        rw [hR] at q est
        refine iT (by rw [hR]; simp) ?_
        walk_at "rd"
        refine i_ixl (v := .int (s0 : Int)) (.of est) (show atI _ ((0 : Nat) : Int) = _ from atI_nat rfl) ?_
        walk_at "rd"
        refine i_inL (.of (sO _ _ d.good)) rfl (flat_nums _) ?_
        rw [inV_nums]
        exact q
      | cons pc r =>
        obtain ⟨p, c⟩ := pc
        rw [hR] at q
        obtain ⟨hsn, _, _⟩ := hI.stk (s0, c0) (by rw [hR]; simp)
        obtain ⟨hpn, hcn, hcs⟩ := hI.stk (p, c) (by rw [hR]; simp)
        refine iF (by rw [dec_int, hR]; simp; omega) ?_
        have htabs := d.tabs
        rw [hR] at htabs
        obtain ⟨b, crs', rfl, h2, _⟩ := tabs_get1 htabs
        obtain ⟨b2, crs2, rfl, _, hb2⟩ := tabs_get1 h2
        have est1 : atI (nums ((R.stk.map (·.1)).reverse)) (-1) = some (V.int (s0 : Int)) := by
          rw [nums_rev, hR]
          exact atL1 (fun q : Nat × Cs => V.int (q.1 : Int)) (s0, c0) _
        have est2 : atI (nums ((R.stk.map (·.1)).reverse)) (-2) = some (V.int (p : Int)) := by
          rw [nums_rev, hR]
          exact atL2 (fun q : Nat × Cs => V.int (q.1 : Int)) (s0, c0) (p, c) r
        have ecr : atI ((crs2 ++ [b2] ++ [b]).map V.ref) (-2) = some (V.ref b2) := by
          have := atL2 V.ref b b2 crs2.reverse
          simpa using this
        obtain ⟨rs', rr, row, e1, e2, e3, e4⟩ := steps_get hM (d.steps.mono sO) hpn hsn
        have hat := opts_at (c := c) (s := sp M.steps p s0) (by rw [hcn]; exact sp_lt hM _ _)
        walk_at "rd"
        refine i_ixl (.of d.costs) ecr ?_
        walk_at "rd"
        refine i_ixl (.of d.states) est2 ?_
        refine i_ixl (.of e1) e2 ?_
        walk_at "rd"
        refine i_ixl (.of d.states) est1 ?_
        refine i_ixl (.of e3) e4 ?_
        refine i_ixl (.of (sO _ _ hb2)) hat ?_
        walk_at "rd"
        have eV : (!decide (oV (gt c (sp M.steps p s0)) = V.non)) = (gt c (sp M.steps p s0)).isSome := by
          cases gt c (sp M.steps p s0) with
          | none => rfl
          | some u => exact nint_non _
        rw [eV]
        exact q
end
/-! ## 33. The cheapest start -/
def BestAt (G : Hp) (v : V) : Option (Nat × Tx) → Prop
  | none => v = .non
  | some b => ∃ t : Addr, v = .ref t ∧ G t = some (.tup [.int (b.1 : Int), .str (S b.2)])
theorem BestAt.mono {G G' : Hp} (s : Same G G') {v : V} : ∀ {b : Option (Nat × Tx)}, BestAt G v b → BestAt G' v b
  | none, h => h
  | some _, ⟨t, e, h⟩ => ⟨t, e, s _ _ h⟩
def spCheap (C : Addr) : Sp := fun vs H Q _ => ∃ (x a5 a6 : Addr) (M : RM) (R : RS) (h : Tx), vs = [.ref x, .str (S h)] ∧ h.length ≤ 100 ∧ RdrAt C M H x a5 a6 R ∧
  ∀ (v : V) (H' : Hp), KeepR x a5 a6 H H' → RdrAt C M H' x a5 a6 R → BestAt (own3 x a5 a6 H') v (cheapest M R h) → Q v H'
abbrev NCheap : List Str := ["self", "head", "best", "label", "state", "cost"]
theorem scCheap : FnScope NCheap ["self", "head"] (defScope sCheap) := ⟨rfl, rfl, rfl, by decide +kernel, rfl, by decide +kernel, by decide +kernel⟩
theorem cut_take (l : Tx) (k : Nat) : cutS (S l) none (some (k : Int)) = S (l.take k) := by
  rw [S_cut, HT.sIx_none, HT.sIx_nat]
  simp only [List.drop_zero, Nat.sub_zero]
  congr 1
  rcases Nat.le_total k l.length with h | h
  · rw [Nat.min_eq_left h]
  · rw [Nat.min_eq_right h, List.take_of_length_le (Nat.le_refl _), List.take_of_length_le h]
theorem cheap_snoc {inner : Cs} {h : Tx} {sg : Nat} {ss : List (Tx × Nat)} {p : Tx × Nat} {b : Option (Nat × Tx)} : cheapBy inner h sg (ss ++ [p]) b = better (cheapBy inner h sg ss b) (costBy h sg p.1 (gt inner p.2)) p.1 := by
  unfold cheapBy
  rw [List.foldl_append]
  rfl
section
variable {P : Program} {w : World} {K : PySem.W.Frag} {mg : Str → Option Value} {base : Heap} {C : Addr}
theorem ok_cheap {f : Addr} {fd : FuncData} (F : Fun K "cheapest" "Reader.cheapest" sCheap f fd) (T : Txt K mg C) (cal_inner_costs : CalM P w K mg base CX0 C "inner_costs" 2 ["self"] (spInner C)) :
    FnOk P w K mg base CX0 3 f fd ["self", "head"] (spCheap C) := by
  refine F.ok scCheap (fun vs H Q E h => ?_) (fun cdv A outer s H vs Q E hr h => ?_)
  · obtain ⟨x, a5, a6, M, R, h, rfl, _⟩ := h
    rfl
  · obtain ⟨x, a5, a6, M, R, h, rfl, hh, hRd, q⟩ := h
    obtain ⟨hM, hP, hI, dx, a1, a2, a3, a4, crs, inn, d⟩ := id hRd
    refine ⟨_, (pss_cons (ps_set (i := 2) scCheap.nd rfl (Or.inl rfl) pe_non)
    (pss_cons (ps_for PassesOwn.never rfl (pi_list (pe_fld (pv 0) rfl)) (pg_tup rfl (pgs_cons (pg_name (i := 3) scCheap.nd rfl (Or.inl rfl)) (pgs_cons (pg_name (i := 4) scCheap.nd rfl (Or.inl rfl)) pgs_nil)))
      (pss_cons (ps_set (i := 5) scCheap.nd rfl (Or.inl rfl) (pe_ix ix_list (pmeth0 cal_inner_costs (hr.mono (by decide)) pass0 (pv 0)) (pv 4) (fun _ _ => rfl)))
    (pss_one (ps_if (PW.pt (pw_and (pt_cmpR op_eq (pe_slice sl_str (pv 3) po_none (po_some (pe_callB call_lenS (by rfl) T.len (by decide +kernel) (pa_cons (pv 1) pa_nil)))) (pv 1) (nomark _)) (pw_and1 (pt_cmpR op_notNN (pv 5) pe_non (nomark _)))))
      (pss_cons (ps_set (i := 5) scCheap.nd rfl (Or.inl rfl) (pe_op op_add (pe_op op_sub (pe_op op_add (pv 5) (pe_callB call_lenS (by rfl) T.len (by decide +kernel) (pa_cons (pv 3) pa_nil))) (pe_callB call_lenS (by rfl) T.len (by decide +kernel) (pa_cons (pv 1) pa_nil))) pe_int))
    (pss_cons (ps_if (PW.pt (pw_and (pt_cmpR op_eq (pe_ix ix_str (pv 3) (pe_un un_neg pe_int) (fun _ _ => rfl)) (pes sl_lit3) (nomark _)) (pw_and1 (PW.pt (pw_or (pt_cmpR op_ne (pv 1) (pv 3) (nomark _)) (pw_or1 (pt_cmpR op_eq (pe_fld (pv 0) rfl) pe_int (nomark _))))))))
      (pss_one (ps_set (i := 5) scCheap.nd rfl (Or.inl rfl) (pe_op op_add (pv 5) pe_int)))
      pss_nil)
    (pss_one (ps_if (PW.pt (pw_or (pt_cmpR op_isNN (pv 2) pe_non (nomark _)) (pw_or1 (pt_cmpR op_lt (pv 5) (pe_ix ix_tup (pv 2) pe_int (fun _ _ => rfl)) (nomark _)))))
      (pss_one (ps_set (i := 2) scCheap.nd rfl (Or.inl rfl) (pe_tup (pa_cons (pv 5) (pa_cons (pv 3) pa_nil)))))
      pss_nil))))
      pss_nil))))
    (pss_one (ps_ret (pv 2))))), ?_⟩
    simp only [cx_K]
    have hx := d.ins
    have sO := hide_same [x, a5, a6] H
    obtain ⟨ts, hts, pts⟩ := d.starts
    walk_at "rd"
    refine ⟨a1, rfl, ⟨_, .of (sO _ _ hts)⟩, for_list (K := K) (a := a1) (xs := ts.map V.ref) (fun i σ H' => ∃ (v : V) (v3 v4 v5 : Option V), σ = [some (.ref x), some (.str (S h)), some v, v3, v4, v5] ∧ KeepR x a5 a6 H H' ∧ RdrAt C M H' x a5 a6 R ∧
      BestAt (own3 x a5 a6 H') v (cheapBy (innerOf M R) h R.signs (M.starts.take i) none)) ⟨.non, none, none, none, rfl, KeepR.refl _ _ _ _, hRd, rfl⟩
      (fun i σ H' _ ⟨_, _, _, _, _, kp, _⟩ => .of (hide_same _ _ _ _ (kp _ _ hts))) ?_ ?_⟩
    · rintro i y σ H' hi ⟨v, v3, v4, v5, rfl, kp, rd, hb⟩
      obtain ⟨t, ht, rfl⟩ := get_map hi
      obtain ⟨⟨l, z⟩, hlz, htt⟩ := paired_get pts ht
      have hmem := List.mem_of_getElem? hlz
      have hlab : LabOk l := hM.labs _ hmem
      have hll := lab_len hlab
      have hzn : z < M.n := hM.st_lt _ hmem
      have htt : own3 x a5 a6 H t = some (.tup [.str (S l), .int (z : Int)]) := htt
      obtain ⟨cl, hcl⟩ := last_some (lab_ne hlab)
      obtain ⟨_, _, _, dx', b1, b2, b3, b4, crs', inn', d'⟩ := id rd
      have hx' := d'.ins
      -- the new best
      have nxt : ∀ (b' : Option (Nat × Tx)) (v' : V) (v5' : Option V) (H2 : Hp), b' = better (cheapBy (innerOf M R) h R.signs (M.starts.take i) none) (costBy h R.signs l (gt (innerOf M R) z)) l → KeepR x a5 a6 H H2 → RdrAt C M H2 x a5 a6 R → BestAt (own3 x a5 a6 H2) v' b' →
          ∃ (v : V) (v3 v4 v5 : Option V), ([some (.ref x), some (.str (S h)), some v', some (.str (S l)), some (.int (z : Int)), v5'] : L2.St) = [some (.ref x), some (.str (S h)), some v, v3, v4, v5] ∧ KeepR x a5 a6 H H2 ∧ RdrAt C M H2 x a5 a6 R ∧
            BestAt (own3 x a5 a6 H2) v (cheapBy (innerOf M R) h R.signs (M.starts.take (i + 1)) none) := fun b' v' v5' H2 e k1 k2 k3 => ⟨v', _, _, _, rfl, k1, k2, by rw [take_snoc hlz, cheap_snoc, ← e]; exact k3⟩
      refine i_gtupN (hide_same _ _ _ _ (kp _ _ htt)) ?_
      walk_at "rd"
      refine ⟨x, dx', _, rfl, hx', rf_m1, ?_⟩
      walk_at "rd"
      refine ⟨x, a5, a6, M, R, rfl, rd, fun ai H2 kp2 rd2 hai => ?_⟩
      obtain ⟨_, _, _, dx2, c1, c2, c3, c4, crs2, inn2, d2⟩ := id rd2
      have hx2 := d2.ins
      have kpA := kp.trans kp2
      have hb2 := hb.mono kp2
      have hat := opts_at (c := innerOf M R) (s := z) (by rw [inner_len]; exact hzn)
      walk_at "rd"
      refine i_ixl (.of (hide_same _ _ _ _ hai)) hat ?_
      walk_at "rd"
      refine i_lens (by omega) ?_
      walk_at "rd"
      refine i_slS (by omega) ?_
      rw [cut_take]
      walk_at "rd"
      rw [S_eq]
      by_cases hpre : l.take h.length = h
      · refine iT (decide_eq_true hpre) ?_
        have hle : h.length ≤ l.length := by
          have e := congrArg List.length hpre
          rw [List.length_take] at e
          omega
        cases eo : gt (innerOf M R) z with
        | none =>
          walk_at "rd"
          refine iF nnon_non ?_
          walk_at "rd"
          exact nxt _ v _ H2 (by rw [eo]; rfl) kpA rd2 hb2
        | some c =>
          have ecost : costBy h R.signs l (gt (innerOf M R) z) = some (c + (l.length - h.length) + 1 + (if colonEnd l = true ∧ (h ≠ l ∨ R.signs = 0) then 1 else 0)) := by
            rw [eo]
            show (if l.take h.length = h then _ else _) = _
            rw [if_pos hpre]
          -- the last test
          have fin : ∀ (D0 : Ends) (n : Nat), costBy h R.signs l (gt (innerOf M R) z) = some n → (∀ (v' : V) (H3 : Hp) (b' : Option (Nat × Tx)), b' = better (cheapBy (innerOf M R) h R.signs (M.starts.take i) none) (costBy h R.signs l (gt (innerOf M R) z)) l → KeepR x a5 a6 H H3 → RdrAt C M H3 x a5 a6 R → BestAt (own3 x a5 a6 H3) v' b' →
                D0.nx [some (.ref x), some (.str (S h)), some v', some (.str (S l)), some (.int (z : Int)), some (.int (n : Int))] H3) →
              tIfS (tOr (tTest (tOp rIsN (tVar 2) (tC .non))) (tTest (tOp (rI0 fun i j => .bl (decide (i < j))) (tVar 5) (tOp (rIxT K) (tVar 2) (tC (.int 0)))))) (tAsg (tTup (tCons (tVar 5) (tCons (tVar 3) tNil))) (gName 2)) tNext D0
                [some (.ref x), some (.str (S h)), some v, some (.str (S l)), some (.int (z : Int)), some (.int (n : Int))] H2 := by
            intro D0 n en nx
            have new : tAsg (tTup (tCons (tVar 5) (tCons (tVar 3) tNil))) (gName 2) { D0 with nx := fun σ H3 => (better (cheapBy (innerOf M R) h R.signs (M.starts.take i) none) (some n) l = some (n, l)) → D0.nx σ H3 } [some (.ref x), some (.str (S h)), some v, some (.str (S l)), some (.int (z : Int)), some (.int (n : Int))] H2 := by
              walk_at "rd"
              refine ⟨small_line (by simp), fun t ht => ?_⟩
              walk_at "rd"
              intro hbet
              exact nx (.ref t) _ (some (n, l)) (by rw [en, hbet]) (kpA.trans (KeepR.of (same_new ht _))) (rd2.mono (same_new ht _)) ⟨t, rfl, d2.own_new ht upd_same⟩
            walk_at "rd"
            cases eb : cheapBy (innerOf M R) h R.signs (M.starts.take i) none with
            | none =>
              rw [eb] at hb2
              have hv : v = .non := hb2
              subst hv
              refine iT non_non ?_
              walk_at "rd"
              refine ⟨small_line (by simp), fun t ht => ?_⟩
              walk_at "rd"
              exact nx (.ref t) _ (some (n, l)) (by rw [en, eb]; rfl) (kpA.trans (KeepR.of (same_new ht _))) (rd2.mono (same_new ht _)) ⟨t, rfl, d2.own_new ht upd_same⟩
            | some b =>
              rw [eb] at hb2
              obtain ⟨tb, rfl, htb⟩ := hb2
              refine iF (decide_eq_false (by intro e; cases e)) ?_
              walk_at "rd"
              refine i_ixt (v := .int (b.1 : Int)) (.of (hide_same _ _ _ _ htb)) (show atI _ ((0 : Nat) : Int) = _ from atI_nat rfl) ?_
              walk_at "rd"
              by_cases cc : n < b.1
              · refine iT (decide_eq_true (by omega)) ?_
                walk_at "rd"
                refine ⟨small_line (by simp), fun t ht => ?_⟩
                walk_at "rd"
                exact nx (.ref t) _ (some (n, l)) (by rw [en, eb]; show _ = (if n < b.1 then _ else _); rw [if_pos cc]) (kpA.trans (KeepR.of (same_new ht _))) (rd2.mono (same_new ht _)) ⟨t, rfl, d2.own_new ht upd_same⟩
              · refine iF (decide_eq_false (by omega)) ?_
                walk_at "rd"
                exact nx (.ref tb) _ (some b) (by rw [en, eb]; show _ = (if n < b.1 then _ else _); rw [if_neg cc]) kpA rd2 ⟨tb, rfl, htb⟩
          walk_at "rd"
          refine iT (nint_non _) ?_
          walk_at "rd"
          refine i_lens (by omega) ?_
          walk_at "rd"
          refine i_lens (by omega) ?_
          walk_at "rd"
          rw [show ((c : Int) + (l.length : Int) - (h.length : Int) + 1) = ((c + (l.length - h.length) + 1 : Nat) : Int) by omega]
          refine i_ixs (small_line (by omega)) (at_last hcl) ?_
          walk_at "rd"
          rw [colon_dec hcl]
          cases ec : colonEnd l with
          | false =>
            rw [ec] at ecost
            refine iteF ?_
            walk_at "rs"
            refine fin _ _ (by rw [ecost, if_neg (by simp)]) ?_
            intro v' H3 b' h1 h2 h3 h4
            exact nxt b' v' _ H3 h1 h2 h3 h4
          | true =>
            rw [ec] at ecost
            refine iteT ?_
            walk_at "rd"
            rw [S_eq]
            by_cases hne : h = l
            · refine iF (by simp [hne]) ?_
              walk_at "rd"
              by_cases hs : R.signs = 0
              · refine iT (by rw [hs]; rfl) ?_
                walk_at "rs"
                refine i_asg ?_
                walk_at "rs"
                rw [show (((c + (l.length - h.length) + 1 : Nat) : Int) + 1) = ((c + (l.length - h.length) + 1 + 1 : Nat) : Int) by omega]
                refine fin _ _ (by rw [ecost, if_pos ⟨rfl, .inr hs⟩]) ?_
                intro v' H3 b' h1 h2 h3 h4
                exact nxt b' v' _ H3 h1 h2 h3 h4
              · refine iF (by rw [dec_int]; simp; exact hs) ?_
                walk_at "rs"
                refine fin _ _ (by rw [ecost, if_neg (by simp [hs, hne])]) ?_
                intro v' H3 b' h1 h2 h3 h4
                exact nxt b' v' _ H3 h1 h2 h3 h4
            · refine iT (by simp [hne]) ?_
              walk_at "rs"
              refine i_asg ?_
              walk_at "rs"
              rw [show (((c + (l.length - h.length) + 1 : Nat) : Int) + 1) = ((c + (l.length - h.length) + 1 + 1 : Nat) : Int) by omega]
              refine fin _ _ (by rw [ecost, if_pos ⟨rfl, .inl hne⟩]) ?_
              intro v' H3 b' h1 h2 h3 h4
              exact nxt b' v' _ H3 h1 h2 h3 h4
      · refine iF (decide_eq_false hpre) ?_
        walk_at "rd"
        refine nxt _ v _ H2 ?_ kpA rd2 hb2
        have e : costBy h R.signs l (gt (innerOf M R) z) = none := by
          unfold costBy
          split
          · rfl
          · rw [if_neg hpre]
        rw [e]
        rfl
    · rintro σ H' ⟨v, v3, v4, v5, rfl, kp, rd, hb⟩
      rw [List.take_of_length_le (by rw [List.length_map, Paired.length pts]; exact Nat.le_refl _)] at hb
      walk_at "rd"
      exact q v H' kp rd hb
end
/-! ## 34. Left, hint -/
def spLeft (C : Addr) : Sp := fun vs H Q _ => ∃ (x a5 a6 : Addr) (M : RM) (R : RS), vs = [.ref x] ∧ RdrAt C M H x a5 a6 R ∧ ∀ H' : Hp, KeepR x a5 a6 H H' → RdrAt C M H' x a5 a6 R → Q (oV (leftS M R)) H'
abbrev NLeft : List Str := ["self", "best"]
theorem scLeft : FnScope NLeft ["self"] (defScope sLeft) := ⟨rfl, rfl, rfl, by decide +kernel, rfl, by decide +kernel, by decide +kernel⟩
def spHint (C : Addr) : Sp := fun vs H Q _ => ∃ (x a5 a6 : Addr) (M : RM) (R : RS), vs = [.ref x] ∧ RdrAt C M H x a5 a6 R ∧ R.whole = true ∧ Q (.str (S [])) H
abbrev NHint : List Str := ["self", "best"]
theorem scHint : FnScope NHint ["self"] (defScope sHint) := ⟨rfl, rfl, rfl, by decide +kernel, rfl, by decide +kernel, by decide +kernel⟩
section
variable {P : Program} {w : World} {K : PySem.W.Frag} {mg : Str → Option Value} {base : Heap} {C : Addr}
theorem ok_left {f : Addr} {fd : FuncData} (F : Fun K "left" "Reader.left" sLeft f fd) (T : Txt K mg C) (cal_cheapest : CalM P w K mg base CX0 C "cheapest" 3 ["self", "head"] (spCheap C)) : FnOk P w K mg base CX0 4 f fd ["self"] (spLeft C) := by
  refine F.ok scLeft (fun vs H Q E h => ?_) (fun cdv A outer s H vs Q E hr h => ?_)
  · obtain ⟨x, a5, a6, M, R, rfl, _⟩ := h
    rfl
  · obtain ⟨x, a5, a6, M, R, rfl, hRd, q⟩ := h
    obtain ⟨hM, hP, hI, dx, a1, a2, a3, a4, crs, inn, d⟩ := id hRd
    refine ⟨_, (pss_cons (ps_if (pt_val (pe_fld (pv 0) rfl))
      (pss_one (ps_ret pe_int))
      pss_nil)
    (pss_cons (ps_if (PW.pt (pw_and (pt_cmpR op_eq (pe_fld (pv 0) rfl) (pes sl_lit4) (nomark _)) (pw_and1 (pt_cmpR op_gt (pe_callB call_lenQ (by rfl) T.len (by decide +kernel) (pa_cons (pe_fld (pv 0) rfl) pa_nil)) pe_int (nomark _)))))
      (pss_one (ps_ret (pe_ix ix_list (pe_ix ix_list (pe_fld (pv 0) rfl) (pe_un un_neg pe_int) (fun _ _ => rfl)) (pe_ix ix_list (pe_fld (pv 0) rfl) (pe_un un_neg pe_int) (fun _ _ => rfl)) (fun _ _ => rfl))))
      pss_nil)
    (pss_cons (ps_set (i := 1) scLeft.nd rfl (Or.inl rfl) (pmeth cal_cheapest (hr.mono (by decide)) pass0 (pv 0) (pa_cons (pe_fld (pv 0) rfl) pa_nil)))
    (pss_cons (ps_if (pt_cmpR op_isNN (pv 1) pe_non (nomark _))
      (pss_one (ps_ret pe_non))
      pss_nil)
    (pss_one (ps_ret (pe_ix ix_tup (pv 1) pe_int (fun _ _ => rfl)))))))), ?_⟩
    simp only [cx_K]
    have hx := d.ins
    have sO := hide_same [x, a5, a6] H
    have hhl := head_len hI (B := 9) (fun p hp => lab_len (hM.labs p hp))
    walk_at "rd"
    cases hw : R.whole with
    | true =>
      refine iteT ?_
      walk_at "rd"
      have e : leftS M R = some 0 := by unfold leftS; rw [hw, if_pos rfl]
      have := q H (KeepR.refl _ _ _ _) hRd
      rw [e] at this
      exact this
    | false =>
      refine iteF ?_
      have cheap : (R.head ≠ [] ∨ R.stk = []) → ∀ (v : V) (H' : Hp), KeepR x a5 a6 H H' → RdrAt C M H' x a5 a6 R → BestAt (own3 x a5 a6 H') v (cheapest M R R.head) →
          tSeq (tIfS (tTest (tOp rIsN (tVar 1) (tC .non))) (tRet (tC .non)) tNext) (tRet (tOp (rIxT K) (tVar 1) (tC (.int 0)))) { nx := fun _ H' => Q .non H', rt := Q } [some (.ref x), some v] H' := by
        intro hh v H' kp rd hb
        have hq := q H' kp rd
        rw [left_cheap hw hh] at hq
        walk_at "rd"
        cases ec : cheapest M R R.head with
        | none =>
          rw [ec] at hb hq
          have hv : v = .non := hb
          subst hv
          refine iT non_non ?_
          walk_at "rd"
          exact hq
        | some b =>
          rw [ec] at hb hq
          obtain ⟨t, rfl, ht⟩ := hb
          refine iF (decide_eq_false (by intro e; cases e)) ?_
          walk_at "rd"
          exact i_ixt (v := .int (b.1 : Int)) (.of (hide_same _ _ _ _ ht)) (show atI _ ((0 : Nat) : Int) = _ from atI_nat rfl) hq
      walk_at "rd"
      rw [S_eq]
      by_cases hh : R.head = []
      · refine iT (decide_eq_true hh) ?_
        walk_at "rd"
        refine i_lenl (.of d.states) ?_
        rw [List.length_map, List.length_reverse, List.length_map]
        walk_at "rd"
        cases hR : R.stk with
        | nil =>
          refine iF (by simp) ?_
          walk_at "rd"
          refine ⟨x, dx, _, rfl, hx, rf_m2, ?_⟩
          walk_at "rd"
          refine ⟨x, a5, a6, M, R, R.head, rfl, by omega, hRd, fun v H' kp rd hb => ?_⟩
          refine i_gname ?_
          exact cheap (.inr hR) v H' kp rd hb
        | cons pc r =>
          obtain ⟨p, c⟩ := pc
          obtain ⟨hpn, hcn, hcs⟩ := hI.stk (p, c) (by rw [hR]; exact List.mem_cons_self)
          have htabs := d.tabs
          rw [hR] at htabs
          obtain ⟨b, crs', rfl, _, hb⟩ := tabs_get1 htabs
          have est : atI (nums ((R.stk.map (·.1)).reverse)) (-1) = some (V.int (p : Int)) := by
            rw [nums_rev, hR]
            exact atL1 (fun q : Nat × Cs => V.int (q.1 : Int)) (p, c) r
          have ecr : atI ((crs' ++ [b]).map V.ref) (-1) = some (V.ref b) := by
            rw [List.map_append]
            exact atI_last _ _
          refine iT (decide_eq_true (by simp <;> omega)) ?_
          walk_at "rd"
          refine i_ixl (.of d.costs) ecr ?_
          walk_at "rd"
          refine i_ixl (.of d.states) est ?_
          refine i_ixl (.of (sO _ _ hb)) (opts_at (by rw [hcn]; exact hpn)) ?_
          have hq := q H (KeepR.refl _ _ _ _) hRd
          have e : leftS M R = gt c p := by
            unfold leftS
            rw [hw, if_neg (by simp), hh, hR]
          rw [e] at hq
          exact hq
      · refine iF (decide_eq_false hh) ?_
        walk_at "rd"
        refine ⟨x, dx, _, rfl, hx, rf_m2, ?_⟩
        walk_at "rd"
        refine ⟨x, a5, a6, M, R, R.head, rfl, by omega, hRd, fun v H' kp rd hb => ?_⟩
        refine i_gname ?_
        exact cheap (.inl hh) v H' kp rd hb
theorem ok_hint {f : Addr} {fd : FuncData} (F : Fun K "hint" "Reader.hint" sHint f fd) (T : Txt K mg C) (cal_left : CalM P w K mg base CX0 C "left" 4 ["self"] (spLeft C)) : FnOk P w K mg base CX0 5 f fd ["self"] (spHint C) := by
  refine F.ok scHint (fun vs H Q E h => ?_) (fun cdv A outer s H vs Q E hr h => ?_)
  · obtain ⟨x, a5, a6, M, R, rfl, _⟩ := h
    rfl
  · obtain ⟨x, a5, a6, M, R, rfl, hRd, hw, q⟩ := h
    obtain ⟨hM, hP, hI, dx, a1, a2, a3, a4, crs, inn, d⟩ := id hRd
    refine ⟨_, (pss_cons (ps_if (PW.pt (pw_or (pt_val (pe_fld (pv 0) rfl)) (pw_or1 (pt_cmpR op_isNN (pmeth0 cal_left (hr.mono (by decide)) pass0 (pv 0)) pe_non (nomark _)))))
      (pss_one (ps_ret (pes sl_lit4)))
      pss_nil) pss_never), ?_⟩
    simp only [cx_K]
    have hx := d.ins
    walk_at "rd"
    refine iT hw ?_
    walk_at "rd"
    exact q
end
/-! ## 35. Fits -/
def spFits (C : Addr) : Sp := fun vs H Q _ => ∃ (x a5 a6 : Addr) (M : RM) (R : RS) (c : Nat), vs = [.ref x, .str (S [c])] ∧ RdrAt C M H x a5 a6 R ∧ ∀ H' : Hp, KeepR x a5 a6 H H' → RdrAt C M H' x a5 a6 R → Q (.bl (fitsS M R c)) H'
abbrev NFits : List Str := ["self", "sign", "found", "pair"]
theorem scFits : FnScope NFits ["self", "sign"] (defScope sFits) := ⟨rfl, rfl, rfl, by decide +kernel, rfl, by decide +kernel, by decide +kernel⟩
theorem cut_end (h : Tx) : decide (V.str (cutS (S h) (some (-1)) none) = V.str (S [58])) = colonEnd h := by
  rw [S_cut, S_eq]
  unfold colonEnd
  rcases List.eq_nil_or_concat h with rfl | ⟨g, c, rfl⟩
  · rfl
  · have e1 : HT.sIx (g ++ [c]).length 0 (some (-1)) = g.length := by
      unfold HT.sIx
      simp only [List.length_append, List.length_cons, List.length_nil]
      rw [if_pos (by decide)]
      omega
    rw [List.concat_eq_append, e1, HT.sIx_none]
    simp
theorem bestV {G : Hp} {v : V} {b : Option (Nat × Tx)} (h : BestAt G v b) : (!decide (v = V.non)) = b.isSome := by
  cases b with
  | none =>
    have hv : v = .non := h
    subst hv
    rfl
  | some b =>
    obtain ⟨t, rfl, _⟩ := h
    rw [decide_eq_false (fun e => by cases e)]
    rfl
theorem optV (o : Option Nat) : (!decide (oV o = V.non)) = o.isSome := by
  cases o with
  | none => rfl
  | some u => exact nint_non _
theorem start_filter (ss : List (Tx × Nat)) (l : Tx) : startOf ss l = ((ss.filter fun p => decide (p.1 = l)).head?).map (·.2) := by
  unfold startOf
  rw [List.head?_filter]
section
variable {P : Program} {w : World} {K : PySem.W.Frag} {mg : Str → Option Value} {base : Heap} {C : Addr}
/-- [.. for pair in self.starts if pair[0] == self.head] -/
theorem found_lc {T : Txt K mg C} {M : RM} {H0 H : Hp} {x dx a1 a2 a3 a4 a5 a6 : Addr} {inn : V} {hd : Tx} {sg : Nat} {wh : Bool} {te : TE} {σ : L2.St} {Q : VK} {ss : List (Tx × Nat)} (f : Addr → Tx × Nat → V)
    (hs0 : σ[0]? = some (some (.ref x))) (h3 : σ.length = 4) (hx : H x = some (.ins C dx (rf a1 a2 a3 a4 a5 a6 inn hd sg wh))) (hst : StartsAt H a1 ss) (hfew : ss.length ≤ 100)
    (hte : ∀ (t : Addr) (p : Tx × Nat) (H' : Hp) (Q' : VK), H' t = some (.tup [.str (S p.1), .int (p.2 : Int)]) → Q' (f t p) H' → te ((wipe σ [3]).set 3 (some (.ref t))) H' Q')
    (q : ∀ (D : Addr) (H' : Hp) (fs : List Addr), H D = none → Same H H' → Paired (fun t (p : Tx × Nat) => H t = some (.tup [.str (S p.1), .int (p.2 : Int)])) fs (ss.filter fun p => decide (p.1 = hd)) →
      H' D = some (.lst ((fs.zip (ss.filter fun p => decide (p.1 = hd))).map fun z => f z.1 z.2)) → Q (.ref D) H') :
    LCW (gName 3) (tTest (tOp rEq (tOp (rIxT K) (tVar 3) (tC (.int 0))) (tFld K (tVar 0) "head"))) te [3] σ Q (Itl K a1) H := by
  obtain ⟨ts, hts, pts⟩ := hst
  refine fun D hD => lc_list (K := K) (a := a1) (xs := ts.map V.ref) (fun i H' => Same H H' ∧ ∃ fs : List Addr, Paired (fun t (p : Tx × Nat) => H t = some (.tup [.str (S p.1), .int (p.2 : Int)])) fs ((ss.take i).filter fun p => decide (p.1 = hd)) ∧
    H' D = some (.lst ((fs.zip ((ss.take i).filter fun p => decide (p.1 = hd))).map fun z => f z.1 z.2))) ⟨same_new hD _, [], .nil, upd_same⟩ (fun i H' _ h' => .of (h'.1 _ _ hts)) ?_ ?_
  · rintro i y H' hi ⟨sm, fs, pf, hD'⟩
    obtain ⟨t, ht, rfl⟩ := get_map hi
    obtain ⟨⟨l, z⟩, hlz, htt⟩ := paired_get pts ht
    have htt : H t = some (.tup [.str (S l), .int (z : Int)]) := htt
    have hx' := sm _ _ hx
    refine i_gname ?_
    have hw3 : (wipe σ [3]).length = 4 := by rw [wipe_length]; exact h3
    refine ⟨?_, ?_⟩
    · show ((wipe σ [3]).set 3 (some (.ref t))).set 3 none = wipe σ [3]
      show ((σ.set 3 none).set 3 (some (.ref t))).set 3 none = σ.set 3 none
      simp
    have g3 : ((wipe σ [3]).set 3 (some (.ref t)))[3]? = some (some (.ref t)) := by
      rw [List.getElem?_set_self (by rw [hw3]; decide)]
    have g0 : ((wipe σ [3]).set 3 (some (.ref t)))[0]? = some (some (.ref x)) := by
      rw [List.getElem?_set_ne (by decide)]
      show (σ.set 3 none)[0]? = _
      rw [List.getElem?_set_ne (by decide)]
      exact hs0
    refine i_test (i_op (i_op ?_))
    refine ⟨_, g3, ?_⟩
    refine i_c ?_
    refine i_ixt (v := .str (S l)) (.of (sm _ _ htt)) (show atI _ ((0 : Nat) : Int) = _ from atI_nat rfl) ?_
    refine i_fld ?_
    refine ⟨_, g0, ?_⟩
    refine i_fldv hx' T.cl T.nHead rf_head ?_
    refine i_eq rfl ?_
    refine i_k ?_
    rw [S_eq]
    have ef : (ss.take (i + 1)).filter (fun p => decide (p.1 = hd)) = (ss.take i).filter (fun p => decide (p.1 = hd)) ++ (if l = hd then [(l, z)] else []) := by
      rw [take_snoc hlz, List.filter_append]
      congr 1
      by_cases e : l = hd
      · rw [if_pos e]; simp [e]
      · rw [if_neg e]; simp [e]
    by_cases e : l = hd
    · refine iT (decide_eq_true e) ?_
      refine hte t (l, z) H' _ (sm _ _ htt) ?_
      have hfl := Paired.length pf
      refine ⟨_, hD', ?_, smut sm hD _, fs ++ [t], ?_, ?_⟩
      · rw [List.length_map, List.length_zip, hfl, Nat.min_self]
        have := List.length_filter_le (fun p : Tx × Nat => decide (p.1 = hd)) (ss.take i)
        have := List.length_take_le' i ss
        exact small_line' (by omega)
      · rw [ef, if_pos e]
        exact paired_snoc pf htt
      · rw [upd_same, ef, if_pos e, List.zip_append hfl]
        simp
    · refine iF (decide_eq_false e) ?_
      refine ⟨sm, fs, ?_, ?_⟩
      · rw [ef, if_neg e, List.append_nil]; exact pf
      · rw [ef, if_neg e, List.append_nil]; exact hD'
  · rintro H' ⟨sm, fs, pf, hD'⟩
    rw [List.take_of_length_le (by rw [List.length_map, Paired.length pts]; exact Nat.le_refl _)] at pf hD'
    exact q D H' fs hD sm pf hD'
theorem ok_fits {f : Addr} {fd : FuncData} (F : Fun K "fits" "Reader.fits" sFits f fd) (T : Txt K mg C) (cal_inner_costs : CalM P w K mg base CX0 C "inner_costs" 2 ["self"] (spInner C))
    (cal_cheapest : CalM P w K mg base CX0 C "cheapest" 3 ["self", "head"] (spCheap C)) (cal_closes : CalM P w K mg base CX0 C "closes" 1 ["self"] (spCloses C)) : FnOk P w K mg base CX0 4 f fd ["self", "sign"] (spFits C) := by
  refine F.ok scFits (fun vs H Q E h => ?_) (fun cdv A outer s H vs Q E hr h => ?_)
  · obtain ⟨x, a5, a6, M, R, c, rfl, _⟩ := h
    rfl
  · obtain ⟨x, a5, a6, M, R, c, rfl, hRd, q⟩ := h
    obtain ⟨hM, hP, hI, dx, a1, a2, a3, a4, crs, inn, d⟩ := id hRd
    refine ⟨_, (pss_cons (ps_if (pt_val (pe_fld (pv 0) rfl))
      (pss_one (ps_ret pe_bl))
      pss_nil)
    (pss_cons (ps_if (pt_cmpR op_eq (pe_slice sl_str (pe_fld (pv 0) rfl) (po_some (pe_un un_neg pe_int)) po_none) (pes sl_lit3) (nomark _))
      (pss_cons (ps_if (pt_cmpR op_eq (pv 1) (pes sl_lit1) (nomark _))
      (pss_one (ps_ret (pe_cmpR op_gt (pe_fld (pv 0) rfl) pe_int (nomark _))))
      pss_nil)
    (pss_one (ps_ret (pe_and (pe_cmpR op_inS (pv 1) (pglob T.gWord) rfl) (pe_one (pe_cmpR op_lt (pe_fld (pv 0) rfl) (pglob T.gMost) (nomark _)))))))
      pss_nil)
    (pss_cons (ps_if (pt_cmpR op_eq (pv 1) (pes sl_lit1) (nomark _))
      (pss_cons (ps_setLc (i := 2) (own := [("pair", 3)]) (g := gName 3) (tt := tTest (tOp rEq (tOp (rIxT K) (tVar 3) (tC (.int 0))) (tFld K (tVar 0) "head"))) rfl scFits.nd rfl rfl (sw_true rfl rfl rfl (by decide +kernel)) (pi_list (pe_fld (pv 0) rfl)) (blkOk_by (own := [("pair", 3)]) (N := NFits) (sc := defScope sFits) (by decide +kernel)) (fun _ _ _ _ _ => pg_name (i := 3) scFits.nd rfl (Or.inl rfl)) (fun _ _ _ _ _ => (pts_one (pt_cmpR op_eq (pe_ix ix_tup (pv 3) pe_int (fun _ _ => rfl)) (pe_fld (pv 0) rfl) (nomark _)))) (fun _ _ _ _ _ => (pv 3)))
    (pss_one (ps_ret (pe_and (pe_cmpR op_gt (pe_callB call_lenQ (by rfl) T.len (by decide +kernel) (pa_cons (pv 2) pa_nil)) pe_int (nomark _)) (pe_one (pe_cmpR op_notNN (pe_ix ix_list (pmeth0 cal_inner_costs (hr.mono (by decide)) pass0 (pv 0)) (pe_ix ix_tup (pe_ix ix_list (pv 2) pe_int (fun _ _ => rfl)) pe_int (fun _ _ => rfl)) (fun _ _ => rfl)) pe_non (nomark _)))))))
      pss_nil)
    (pss_cons (ps_if (pt_cmpR op_eq (pv 1) (pes sl_lit2) (nomark _))
      (pss_one (ps_ret (pe_and (pe_cmpR op_eq (pe_fld (pv 0) rfl) (pes sl_lit4) (nomark _)) (pe_one (pmeth0 cal_closes (hr.mono (by decide)) pass0 (pv 0))))))
      pss_nil)
    (pss_one (ps_ret (pe_and (pe_or (pe_cmpR op_inS (pv 1) (pglob T.gLow) rfl) (pe_one (pe_cmpR op_eq (pv 1) (pes sl_lit3) (nomark _)))) (pe_one (pe_cmpR op_notNN (pmeth cal_cheapest (hr.mono (by decide)) pass0 (pv 0) (pa_cons (pe_op op_addS (pe_fld (pv 0) rfl) (pv 1)) pa_nil)) pe_non (nomark _)))))))))), ?_⟩
    simp only [cx_K]
    have hx := d.ins
    have sO := hide_same [x, a5, a6] H
    have hhl := head_len hI (B := 9) (fun p hp => lab_len (hM.labs p hp))
    have hq0 := q H (KeepR.refl _ _ _ _) hRd
    unfold fitsS at q hq0
    have sEq : ∀ a b : Nat, decide (V.str (S [a]) = V.str (S [b])) = decide (a = b) := fun a b => by
      rw [S_eq]
      by_cases e : a = b
      · subst e; simp
      · rw [decide_eq_false e, decide_eq_false (by simpa using e)]
    walk_at "rd"
    cases hw : R.whole with
    | true =>
      rw [hw, if_pos rfl] at hq0
      refine iteT ?_
      walk_at "rd"
      exact hq0
    | false =>
      simp only [hw, Bool.false_eq_true, if_false] at q hq0
      refine iteF ?_
      walk_at "rd"
      refine i_slS (by omega) ?_
      walk_at "rd"
      rw [cut_end]
      cases hc : colonEnd R.head with
      | true =>
        simp only [hc, if_true] at q hq0
        refine iteT ?_
        walk_at "rd"
        rw [sEq]
        by_cases h40 : c = 40
        · rw [if_pos h40] at hq0
          refine iT (decide_eq_true h40) ?_
          walk_at "rd"
          rw [show decide ((0 : Int) < (R.signs : Int)) = decide (0 < R.signs) from dec_lt (a := 0)]
          exact hq0
        · rw [if_neg h40] at hq0
          refine iF (decide_eq_false h40) ?_
          walk_at "rd"
          rw [show decide (c ∈ wordSigns) = decide (isLow c ∨ isFig c) from decide_eq_decide.mpr (mem_word c)]
          by_cases hm : isLow c ∨ isFig c
          · rw [decide_eq_true hm, Bool.true_and] at hq0
            refine iT (decide_eq_true hm) ?_
            walk_at "rd"
            rw [show decide ((R.signs : Int) < (60 : Int)) = decide (R.signs < 60) from dec_lt (b := 60)]
            exact hq0
          · rw [decide_eq_false hm, Bool.false_and] at hq0
            refine iF (decide_eq_false hm) ?_
            exact hq0
      | false =>
        simp only [hc, Bool.false_eq_true, if_false] at q hq0
        refine iteF ?_
        walk_at "rd"
        rw [sEq]
        by_cases h40 : c = 40
        · refine iT (decide_eq_true h40) ?_
          simp only [h40, if_true] at q hq0
          walk_at "rd"
          refine ⟨a1, rfl, ⟨_, .of (sO _ _ d.starts.choose_spec.1)⟩, found_lc (T := T) (M := M) (H0 := H) (ss := M.starts) (fun t _ => .ref t) rfl rfl hx (d.starts.mono sO) hM.few (fun t p H' Q' _ hq => ⟨_, rfl, hq⟩) fun D H1 fs hD s1 pf hD1 => ?_⟩
          have hx1 := s1 _ _ hx
          have rd1 := hRd.mono s1
          have hfl := Paired.length pf
          have ez : (fs.zip (M.starts.filter fun p => decide (p.1 = R.head))).map (fun z => V.ref z.1) = fs.map V.ref := by
            rw [show (fun z : Addr × (Tx × Nat) => V.ref z.1) = V.ref ∘ Prod.fst from rfl, ← List.map_map, List.map_fst_zip (by omega)]
          rw [ez] at hD1
          have eso := start_filter M.starts R.head
          walk_at "rd"
          refine i_lenl (.of hD1) ?_
          rw [List.length_map, hfl]
          walk_at "rd"
          cases ef : (M.starts.filter fun p => decide (p.1 = R.head)) with
          | nil =>
            rw [ef] at eso
            have eso' : startOf M.starts R.head = none := eso
            refine iF (by simp) ?_
            rw [eso'] at hq0
            have := q H1 (KeepR.of s1) rd1
            rw [eso'] at this
            exact this
          | cons p r =>
            rw [ef] at eso pf
            obtain ⟨l, z⟩ := p
            have eso' : startOf M.starts R.head = some z := eso
            cases pf with
            | cons hp pf =>
              rename_i t fs
              have hp : H t = some (.tup [.str (S l), .int (z : Int)]) := hp
              have hzn : z < M.n := hM.st_lt _ (startOf_mem eso')
              refine iT (decide_eq_true (by simp <;> omega)) ?_
              walk_at "rd"
              refine ⟨x, dx, _, rfl, hx1, rf_m1, ?_⟩
              walk_at "rd"
              refine ⟨x, a5, a6, M, R, rfl, rd1, fun ai H2 kp2 rd2 hai => ?_⟩
              have own1 : own3 x a5 a6 H2 D = some (.lst ((t :: fs).map V.ref)) := kp2 _ _ (d.own_new hD hD1)
              have npt : t ∉ [x, a5, a6] := by
                intro hm
                simp only [List.mem_cons, List.not_mem_nil, or_false] at hm
                rcases hm with rfl | rfl | rfl
                · rw [d.ins] at hp; cases hp
                · rw [d.states] at hp; cases hp
                · rw [d.costs] at hp; cases hp
              have own2 : own3 x a5 a6 H2 t = some (.tup [.str (S l), .int (z : Int)]) := kp2 _ _ (by rw [show own3 x a5 a6 H1 t = H1 t from hide_get npt]; exact s1 _ _ hp)
              walk_at "rd"
              refine i_ixl (v := .ref t) (.of (hide_same _ _ _ _ own1)) (show atI _ ((0 : Nat) : Int) = _ from atI_nat rfl) ?_
              walk_at "rd"
              refine i_ixt (v := .int (z : Int)) (.of (hide_same _ _ _ _ own2)) (show atI _ ((1 : Nat) : Int) = _ from atI_nat rfl) ?_
              refine i_ixl (.of (hide_same _ _ _ _ hai)) (opts_at (by rw [inner_len]; exact hzn)) ?_
              walk_at "rd"
              rw [optV]
              have := q H2 ((KeepR.of s1).trans kp2) rd2
              rw [eso'] at this
              exact this
        · rw [if_neg h40] at hq0
          refine iF (decide_eq_false h40) ?_
          walk_at "rd"
          rw [sEq]
          by_cases h41 : c = 41
          · rw [if_pos h41] at hq0
            refine iT (decide_eq_true h41) ?_
            walk_at "rd"
            rw [S_eq]
            by_cases hh : R.head = []
            · rw [decide_eq_true hh, Bool.true_and] at hq0
              refine iT (decide_eq_true hh) ?_
              walk_at "rd"
              refine ⟨x, dx, _, rfl, hx, rf_m3, ?_⟩
              walk_at "rd"
              exact ⟨x, a5, a6, M, R, rfl, hRd, hq0⟩
            · rw [decide_eq_false hh, Bool.false_and] at hq0
              refine iF (decide_eq_false hh) ?_
              exact hq0
          · rw [if_neg h41] at hq0
            refine iF (decide_eq_false h41) ?_
            have rest : (decide (isLow c) || decide (c = 58)) = true → ∀ (v : V) (H' : Hp), KeepR x a5 a6 H H' → RdrAt C M H' x a5 a6 R → BestAt (own3 x a5 a6 H') v (cheapest M R (R.head ++ [c])) → Q (.bl (!decide (v = .non))) H' := by
              intro ho v H' kp rd hb
              have := q H' kp rd
              rw [if_neg h40, if_neg h41, ho, Bool.true_and] at this
              rw [bestV hb]
              exact this
            walk_at "rd"
            rw [show decide (c ∈ lowers) = decide (isLow c) from decide_eq_decide.mpr (mem_low c)]
            by_cases hm : isLow c
            · refine iT (decide_eq_true hm) ?_
              walk_at "rd"
              refine ⟨x, dx, _, rfl, hx, rf_m2, ?_⟩
              walk_at "rd"
              refine i_adds (by simp; omega) ?_
              walk_at "rd"
              refine ⟨x, a5, a6, M, R, R.head ++ [c], rfl, by simp; omega, hRd, fun v H' kp rd hb => ?_⟩
              walk_at "rd"
              exact rest (by simp [hm]) v H' kp rd hb
            · refine iF (decide_eq_false hm) ?_
              walk_at "rd"
              rw [sEq]
              by_cases h58 : c = 58
              · rw [decide_eq_true h58]
                walk_at "rd"
                refine ⟨x, dx, _, rfl, hx, rf_m2, ?_⟩
                walk_at "rd"
                refine i_adds (by simp; omega) ?_
                walk_at "rd"
                refine ⟨x, a5, a6, M, R, R.head ++ [c], rfl, by simp; omega, hRd, fun v H' kp rd hb => ?_⟩
                walk_at "rd"
                exact rest (by simp [h58]) v H' kp rd hb
              · rw [decide_eq_false h58]
                rw [decide_eq_false hm, decide_eq_false h58, Bool.or_false, Bool.false_and] at hq0
                walk_at "rd"
                exact hq0
end
/-! ## 36. Take -/
/-- the own exception -/
structure ExTxt (K : PySem.W.Frag) (mg : Str → Option Value) (CN : Addr) : Prop where
  gC : mg "NoSign" = some (.ref CN)
  xF : PySem.W.excIn K CN [.type "ValueError", .type "Exception", .type "BaseException", .type "object"] "ValueError.__new__" = true
  kF : PySem.W.keepIn K (.ref CN) = true
  bF : PySem.W.subIn K (.ref CN) (.type "BaseException") = some true
  tF : PySem.W.typeIn K (.ref CN) = some (.type "type")
  eF : PySem.W.exmOne K (.ref CN) (.ref CN) = some true
def spTake (C CN : Addr) : Sp := fun vs H Q E => ∃ (x a5 a6 : Addr) (M : RM) (R : RS) (c : Nat), vs = [.ref x, .str (S [c])] ∧ R.stk.length ≤ 100000 ∧ RdrAt C M H x a5 a6 R ∧
  (fitsS M R c = true → ∀ H' : Hp, KeepR x a5 a6 H H' → RdrAt C M H' x a5 a6 (takeS M R c) → Q .non H') ∧
  (fitsS M R c = false → ∀ H' : Hp, KeepR x a5 a6 H H' → RdrAt C M H' x a5 a6 R → E (.ref CN) none H')
abbrev NTake : List Str := ["self", "sign", "state", "pair"]
theorem scTake : FnScope NTake ["self", "sign"] (defScope sTake) := ⟨rfl, rfl, rfl, by decide +kernel, rfl, by decide +kernel, by decide +kernel⟩
theorem RData.next {C : Addr} {M : RM} {H H' : Hp} {x a5 a6 : Addr} {R R' : RS} {dx a1 a2 a3 a4 : Addr} {crs crs' : List Addr} {inn inn' : V} (d : RData C M H x a5 a6 R dx a1 a2 a3 a4 crs inn) (kp : KeepR x a5 a6 H H')
    (h1 : H' x = some (.ins C dx (rf a1 a2 a3 a4 a5 a6 inn' R'.head R'.signs R'.whole))) (h2 : H' a5 = some (.lst (nums ((R'.stk.map (·.1)).reverse)))) (h3 : H' a6 = some (.lst (crs'.map V.ref)))
    (h4 : TablesAt (own3 x a5 a6 H) crs' ((R'.stk.map (·.2)).reverse)) (h5 : inn' = .non) : RData C M H' x a5 a6 R' dx a1 a2 a3 a4 crs' inn' :=
  ⟨h1, h2, h3, d.ne, d.starts.mono kp, d.steps.mono kp, kp _ _ d.good, kp _ _ d.prices, h4.mono kp, .inl h5⟩
theorem nums_snoc (l : List Nat) (z : Nat) : nums (l ++ [z]) = nums l ++ [.int (z : Int)] := by unfold nums; rw [List.map_append]; rfl
theorem i_setLast {p : Addr} {xs : List V} {u v : V} {H : Hp} {Q : Hp → Prop} (h : H p = some (.lst (xs ++ [u]))) (q : Q (upd H p (.lst (xs ++ [v])))) : rSetL (.ref p) (.int (-1)) v H Q := by
  refine ⟨p, xs ++ [u], _, xs.length, rfl, rfl, h, ?_, ?_⟩
  · unfold ixN
    rw [if_neg (by decide), if_pos (by simp <;> omega)]
    simp only [List.length_append, List.length_cons, List.length_nil]
    congr 1
    omega
  · rw [show (xs ++ [u]).set xs.length v = xs ++ [v] from by simp]
    exact q
theorem i_pop {l : Addr} {xs : List V} {y : V} {H : Hp} {Q : VK} (h : H l = some (.lst (xs ++ [y]))) (q : Q y (upd H l (.lst xs))) : rPop (.ref l) [] H Q :=
  ⟨l, xs ++ [y], y, rfl, rfl, h, by simp, by rw [List.dropLast_concat]; exact q⟩
section
variable {P : Program} {w : World} {K : PySem.W.Frag} {mg : Str → Option Value} {base : Heap} {C CN : Addr}
theorem ok_take {f : Addr} {fd : FuncData} (F : Fun K "take" "Reader.take" sTake f fd) (T : Txt K mg C) (X : ExTxt K mg CN) (cal_inner_costs : CalM P w K mg base CX0 C "inner_costs" 2 ["self"] (spInner C))
    (cal_fits : CalM P w K mg base CX0 C "fits" 4 ["self", "sign"] (spFits C)) : FnOk P w K mg base (L2.CX P w) 5 f fd ["self", "sign"] (spTake C CN) := by
  refine F.okX scTake (fun vs H Q E h => ?_) (fun cdv A outer s H vs Q E hr h => ?_)
  · obtain ⟨x, a5, a6, M, R, c, rfl, _⟩ := h
    rfl
  · obtain ⟨x, a5, a6, M, R, c, rfl, hdep, hRd, q, qx⟩ := h
    refine ⟨_, (pss_cons (ps_if (pt_not (pt_val (pmeth cal_fits (hr.mono (by decide)) pass0 (pv 0) (pa_cons (pv 1) pa_nil))))
      (pss_one (ps_raise rfl (takes_of rfl rfl rfl rfl) (pmk_own PySem.F.excBase_ValueError X.xF X.gC X.kF (raises_own X.bF X.tF) (by exact rfl))))
      pss_nil)
    (pss_one (ps_if (pt_cmpR op_eq (pv 1) (pes sl_lit1) (nomark _))
      (pss_cons (ps_expr (pe_bm PySem.F.plainAttrs_list PySem.F.slot_list_append PySem.F.type_list_append mt_append (pe_fld (pv 0) rfl) (pa_cons (pmeth0 cal_inner_costs (hr.mono (by decide)) pass0 (pv 0)) pa_nil)))
    (pss_cons (ps_expr (pe_bm PySem.F.plainAttrs_list PySem.F.slot_list_append PySem.F.type_list_append mt_append (pe_fld (pv 0) rfl) (pa_cons (pe_ix ix_list (pe_lc (own := [("pair", 3)]) (g := gName 3) (tt := tTest (tOp rEq (tOp (rIxT K) (tVar 3) (tC (.int 0))) (tFld K (tVar 0) "head"))) (te := tOp (rIxT K) (tVar 3) (tC (.int 1))) rfl scTake.nd (pi_list (pe_fld (pv 0) rfl)) (blkOk_by (own := [("pair", 3)]) (N := NTake) (sc := defScope sTake) (by decide +kernel)) (fun _ _ _ _ _ => pg_name (i := 3) scTake.nd rfl (Or.inl rfl)) (fun _ _ _ _ _ => (pts_one (pt_cmpR op_eq (pe_ix ix_tup (pv 3) pe_int (fun _ _ => rfl)) (pe_fld (pv 0) rfl) (nomark _)))) (fun _ _ _ _ _ => (pe_ix ix_tup (pv 3) pe_int (fun _ _ => rfl)))) pe_int (fun _ _ => rfl)) pa_nil)))
    (pss_cons (ps_fld (pv 0) pe_non rfl)
    (pss_cons (ps_fld (pv 0) (pes sl_lit4) rfl)
    (pss_one (ps_fld (pv 0) pe_int rfl))))))
      (pss_one (ps_if (pt_cmpR op_eq (pv 1) (pes sl_lit2) (nomark _))
      (pss_cons (ps_set (i := 2) scTake.nd rfl (Or.inl rfl) (pe_bm0 PySem.F.plainAttrs_list PySem.F.slot_list_pop PySem.F.type_list_pop mt_pop (pe_fld (pv 0) rfl)))
    (pss_cons (ps_expr (pe_bm0 PySem.F.plainAttrs_list PySem.F.slot_list_pop PySem.F.type_list_pop mt_pop (pe_fld (pv 0) rfl)))
    (pss_cons (ps_fld (pv 0) pe_non rfl)
    (pss_cons (ps_fld (pv 0) (pe_cmpR op_eq (pe_callB call_lenQ (by rfl) T.len (by decide +kernel) (pa_cons (pe_fld (pv 0) rfl) pa_nil)) pe_int (nomark _)) rfl)
    (pss_one (ps_if (pt_not (pt_val (pe_fld (pv 0) rfl)))
      (pss_one (ps_asg (pe_ix ix_list (pe_ix ix_list (pe_fld (pv 0) rfl) (pe_ix ix_list (pe_fld (pv 0) rfl) (pe_un un_neg pe_int) (fun _ _ => rfl)) (fun _ _ => rfl)) (pv 2) (fun _ _ => rfl)) (pg_sub (pe_fld (pv 0) rfl) (pe_un un_neg pe_int) set_list)))
      pss_nil))))))
      (pss_one (ps_if (pt_cmpR op_eq (pe_slice sl_str (pe_fld (pv 0) rfl) (po_some (pe_un un_neg pe_int)) po_none) (pes sl_lit3) (nomark _))
      (pss_one (ps_fld (pv 0) (pe_op op_add (pe_fld (pv 0) rfl) pe_int) rfl))
      (pss_one (ps_fld (pv 0) (pe_op op_addS (pe_fld (pv 0) rfl) (pv 1)) rfl))))))))), ?_⟩
    simp only [cx_K]
    have sEq : ∀ a b : Nat, decide (V.str (S [a]) = V.str (S [b])) = decide (a = b) := fun a b => by
      rw [S_eq]
      by_cases e : a = b
      · subst e; simp
      · rw [decide_eq_false e, decide_eq_false (by simpa using e)]
    have hx00 := hRd.data.choose_spec.choose_spec.choose_spec.choose_spec.choose_spec.choose_spec.choose_spec.ins
    walk_at "rd"
    refine ⟨x, _, _, rfl, hx00, rf_m4, ?_⟩
    walk_at "rd"
    refine ⟨x, a5, a6, M, R, c, rfl, hRd, fun H1 kp1 rd1 => ?_⟩
    walk_at "rd"
    cases hf : fitsS M R c with
    | false =>
      refine iteT ?_
      exact qx hf H1 kp1 rd1
    | true =>
      refine iteF ?_
      have hInv' := rinv_take rd1.mac rd1.inv hf
      obtain ⟨hM, hP, hI, dx, a1, a2, a3, a4, crs, inn, d⟩ := id rd1
      have hx := d.ins
      have hhl := head_len hI (B := 9) (fun p hp => lab_len (hM.labs p hp))
      have hw : R.whole = false := by
        cases e : R.whole with
        | false => rfl
        | true => unfold fitsS at hf; rw [e] at hf; cases hf
      walk_at "rd"
      rw [sEq]
      by_cases h40 : c = 40
      · subst h40
        refine iT (decide_eq_true rfl) ?_
        obtain ⟨z, hz⟩ : ∃ z, startOf M.starts R.head = some z := by
          cases hc : colonEnd R.head with
          | true =>
            obtain ⟨z, hz⟩ := head_colon hM hI hc
            exact ⟨z, mem_startOf hM.uniq hz⟩
          | false =>
            unfold fitsS at hf
            rw [hw, if_neg (by simp), hc, if_neg (by simp), if_pos rfl] at hf
            cases e : startOf M.starts R.head with
            | some z => exact ⟨z, rfl⟩
            | none => rw [e] at hf; cases hf
        have eT : takeS M R 40 = ⟨(z, innerOf M R) :: R.stk, [], 0, R.whole⟩ := by
          unfold takeS
          rw [if_pos rfl, hz]
          rfl
        walk_at "rd"
        refine i_ty d.costs ?_
        walk_at "rd"
        refine ⟨x, dx, _, rfl, hx, rf_m1, ?_⟩
        walk_at "rd"
        refine ⟨x, a5, a6, M, R, rfl, rd1, fun ai H2 kp2 rd2 hai => ?_⟩
        obtain ⟨_, _, _, dx2, b1, b2, b3, b4, crs2, inn2, d2⟩ := rd2
        have es2 := d2.ne
        walk_at "rd"
        have hcl2 : crs2.length = R.stk.length := by
          have := Paired.length d2.tabs
          rw [this]; simp
        have sa6 : d2.costs = d2.costs := rfl
        -- the list of costs
        have kp : KeepR x a5 a6 H2 (upd H2 a6 (.lst (crs2.map V.ref ++ [.ref ai]))) := KeepR.put6
        refine i_app d2.costs (by rw [List.length_map, hcl2]; exact hdep) ?_
        have hx3 : (upd H2 a6 (.lst (crs2.map V.ref ++ [.ref ai]))) x = some (.ins C dx2 (rf b1 b2 b3 b4 a5 a6 inn2 R.head R.signs R.whole)) := by rw [upd_ne d2.nx6]; exact d2.ins
        have hst3 : (upd H2 a6 (.lst (crs2.map V.ref ++ [.ref ai]))) a5 = some (.lst (nums ((R.stk.map (·.1)).reverse))) := by rw [upd_ne es2]; exact d2.states
        have hco3 : (upd H2 a6 (.lst (crs2.map V.ref ++ [.ref ai]))) a6 = some (.lst ((crs2 ++ [ai]).map V.ref)) := by rw [upd_same, List.map_append]; rfl
        generalize (upd H2 a6 (.lst (crs2.map V.ref ++ [.ref ai]))) = H3 at kp hx3 hst3 hco3 ⊢
        have sO3 := hide_same [x, a5, a6] H3
        have hst3' := (d2.starts.mono kp).mono sO3
        walk_at "rd"
        refine i_ty hst3 ?_
        walk_at "rd"
        refine ⟨b1, rfl, ⟨_, .of hst3'.choose_spec.1⟩, found_lc (T := T) (M := M) (H0 := H) (ss := M.starts) (fun _ p => .int (p.2 : Int)) rfl rfl hx3 hst3' hM.few
          (fun t p H' Q' ht hq => i_op (i_var rfl (i_c (i_ixt (v := .int (p.2 : Int)) (.of ht) (show atI _ ((1 : Nat) : Int) = _ from atI_nat rfl) hq)))) fun D H4 fs hD s4 pf hD4 => ?_⟩
        have hx4 := s4 _ _ hx3
        have eso := start_filter M.starts R.head
        have hl := Paired.length pf
        walk_at "rd"
        refine i_ixl (v := .int (z : Int)) (.of hD4) (show atI _ ((0 : Nat) : Int) = _ from atI_nat ?_) ?_
        · cases ef : (M.starts.filter fun p => decide (p.1 = R.head)) with
          | nil => rw [ef, hz] at eso; cases eso
          | cons p r =>
            rw [ef] at hl eso
            rw [hz] at eso
            cases fs with
            | nil => cases hl
            | cons t fs =>
              show some (V.int (p.2 : Int)) = _
              have e2 : z = p.2 := by simpa using eso
              rw [e2]
        walk_at "rd"
        refine i_app (s4 _ _ hst3) (by simp; omega) ?_
        have hx5 : (upd H4 a5 (.lst (nums ((R.stk.map (·.1)).reverse) ++ [.int (z : Int)]))) x = some (.ins C dx2 (rf b1 b2 b3 b4 a5 a6 inn2 R.head R.signs R.whole)) := by rw [upd_ne d2.nx5]; exact hx4
        have hst5 : (upd H4 a5 (.lst (nums ((R.stk.map (·.1)).reverse) ++ [.int (z : Int)]))) a5 = some (.lst (nums (((z :: R.stk.map (·.1))).reverse))) := by rw [upd_same, List.reverse_cons]; exact congrArg (fun l => some (HO.lst l)) (nums_snoc _ _).symm
        have hco5 : (upd H4 a5 (.lst (nums ((R.stk.map (·.1)).reverse) ++ [.int (z : Int)]))) a6 = some (.lst ((crs2 ++ [ai]).map V.ref)) := by rw [upd_ne es2.symm]; exact s4 _ _ hco3
        have kp5 : KeepR x a5 a6 H2 (upd H4 a5 (.lst (nums ((R.stk.map (·.1)).reverse) ++ [.int (z : Int)]))) := (kp.trans (KeepR.of s4)).trans KeepR.put5
        generalize (upd H4 a5 (.lst (nums ((R.stk.map (·.1)).reverse) ++ [.int (z : Int)]))) = H5 at hx5 hst5 hco5 kp5 ⊢
        walk_at "rd"
        refine i_sfldv hx5 T.cl T.nInner rf_len ?_
        rw [rf_pinner]
        walk_at "rd"
        refine i_sfldv upd_same T.cl T.nHead rf_len ?_
        rw [rf_phead]
        walk_at "rd"
        refine i_sfldv upd_same T.cl T.nSigns rf_len ?_
        rw [show (V.int 0) = V.int ((0 : Nat) : Int) from rfl, rf_psigns]
        have n5 := d2.nx5.symm
        have n6 := d2.nx6.symm
        refine q hf _ (((((kp1.trans kp2).trans kp5).trans KeepR.put).trans KeepR.put).trans KeepR.put) ⟨hM, hP, hInv', dx2, b1, b2, b3, b4, crs2 ++ [ai], .non, ?_⟩
        rw [eT]
        refine d2.next (((kp5.trans KeepR.put).trans KeepR.put).trans KeepR.put) upd_same ?_ ?_ ?_ rfl
        · rw [upd_ne n5, upd_ne n5, upd_ne n5]; exact hst5
        · rw [upd_ne n6, upd_ne n6, upd_ne n6]; exact hco5
        · rw [List.map_cons, List.reverse_cons]
          exact paired_snoc d2.tabs hai
      · refine iF (decide_eq_false h40) ?_
        walk_at "rd"
        rw [sEq]
        by_cases h41 : c = 41
        · subst h41
          refine iT (decide_eq_true rfl) ?_
          have hcl : closes M R = true := by
            unfold fitsS at hf
            rw [hw, if_neg (by simp)] at hf
            by_cases hc : colonEnd R.head = true
            · rw [hc, if_pos rfl, if_neg h40] at hf
              simp [isLow, isFig] at hf
            · rw [if_neg hc, if_neg h40, if_pos rfl] at hf
              simp at hf
              exact hf.2
          have n5 := d.nx5.symm
          have n6 := d.nx6.symm
          obtain ⟨stk, hd, sg, wh⟩ := R
          simp only at hw
          subst hw
          have hdc := d.costs
          have hds := d.states
          cases stk with
          | nil => cases hcl
          | cons sc r =>
            obtain ⟨s0, c0⟩ := sc
            obtain ⟨b, crs', rfl, ht1, _⟩ := tabs_get1 d.tabs
            have hds' : H1 a5 = some (.lst (nums ((r.map (·.1)).reverse) ++ [.int (s0 : Int)])) := by
              rw [hds, List.map_cons, List.reverse_cons, nums, List.map_append]
              rfl
            have hdc' : H1 a6 = some (.lst (crs'.map V.ref ++ [.ref b])) := by
              rw [hdc, List.map_append]
              rfl
            walk_at "rd"
            refine i_ty hds' ?_
            refine i_pop hds' ?_
            have hx2 : (upd H1 a5 (.lst (nums ((r.map (·.1)).reverse)))) x = some (.ins C dx (rf a1 a2 a3 a4 a5 a6 inn hd sg false)) := by rw [upd_ne d.nx5]; exact hx
            have hc2 : (upd H1 a5 (.lst (nums ((r.map (·.1)).reverse)))) a6 = some (.lst (crs'.map V.ref ++ [.ref b])) := by rw [upd_ne d.ne.symm]; exact hdc'
            walk_at "rd"
            refine i_ty hc2 ?_
            refine i_pop hc2 ?_
            have kp3 : KeepR x a5 a6 H1 (upd (upd H1 a5 (.lst (nums ((r.map (·.1)).reverse)))) a6 (.lst (crs'.map V.ref))) := KeepR.put5.trans KeepR.put6
            have hx3 : (upd (upd H1 a5 (.lst (nums ((r.map (·.1)).reverse)))) a6 (.lst (crs'.map V.ref))) x = some (.ins C dx (rf a1 a2 a3 a4 a5 a6 inn hd sg false)) := by rw [upd_ne d.nx6]; exact hx2
            have hs3 : (upd (upd H1 a5 (.lst (nums ((r.map (·.1)).reverse)))) a6 (.lst (crs'.map V.ref))) a5 = some (.lst (nums ((r.map (·.1)).reverse))) := by rw [upd_ne d.ne]; exact upd_same
            have hc3 : (upd (upd H1 a5 (.lst (nums ((r.map (·.1)).reverse)))) a6 (.lst (crs'.map V.ref))) a6 = some (.lst (crs'.map V.ref)) := upd_same
            generalize (upd (upd H1 a5 (.lst (nums ((r.map (·.1)).reverse)))) a6 (.lst (crs'.map V.ref))) = H3 at kp3 hx3 hs3 hc3 ⊢
            walk_at "rd"
            refine i_sfldv hx3 T.cl T.nInner rf_len ?_
            rw [rf_pinner]
            have hx4 : (upd H3 x (.ins C dx (rf a1 a2 a3 a4 a5 a6 .non hd sg false))) x = some (.ins C dx (rf a1 a2 a3 a4 a5 a6 .non hd sg false)) := upd_same
            walk_at "rd"
            refine i_lenl (.of (by rw [upd_ne n5]; exact hs3)) ?_
            rw [List.length_map, List.length_reverse, List.length_map]
            walk_at "rd"
            refine i_sfldv hx4 T.cl T.nWhole rf_len ?_
            rw [rf_pwhole]
            have hx5 : (upd (upd H3 x (.ins C dx (rf a1 a2 a3 a4 a5 a6 .non hd sg false))) x (.ins C dx (rf a1 a2 a3 a4 a5 a6 .non hd sg (decide (V.int (r.length : Int) = .int 0))))) x = some (.ins C dx (rf a1 a2 a3 a4 a5 a6 .non hd sg (decide (V.int (r.length : Int) = .int 0)))) := upd_same
            have kp5 : KeepR x a5 a6 H1 (upd (upd H3 x (.ins C dx (rf a1 a2 a3 a4 a5 a6 .non hd sg false))) x (.ins C dx (rf a1 a2 a3 a4 a5 a6 .non hd sg (decide (V.int (r.length : Int) = .int 0))))) := (kp3.trans KeepR.put).trans KeepR.put
            have hs5 : (upd (upd H3 x (.ins C dx (rf a1 a2 a3 a4 a5 a6 .non hd sg false))) x (.ins C dx (rf a1 a2 a3 a4 a5 a6 .non hd sg (decide (V.int (r.length : Int) = .int 0))))) a5 = some (.lst (nums ((r.map (·.1)).reverse))) := by rw [upd_ne n5, upd_ne n5]; exact hs3
            have hc5 : (upd (upd H3 x (.ins C dx (rf a1 a2 a3 a4 a5 a6 .non hd sg false))) x (.ins C dx (rf a1 a2 a3 a4 a5 a6 .non hd sg (decide (V.int (r.length : Int) = .int 0))))) a6 = some (.lst (crs'.map V.ref)) := by rw [upd_ne n6, upd_ne n6]; exact hc3
            generalize (upd (upd H3 x (.ins C dx (rf a1 a2 a3 a4 a5 a6 .non hd sg false))) x (.ins C dx (rf a1 a2 a3 a4 a5 a6 .non hd sg (decide (V.int (r.length : Int) = .int 0))))) = H5 at hx5 kp5 hs5 hc5 ⊢
            walk_at "rd"
            cases r with
            | nil =>
              refine iF (by simp) ?_
              walk_at "rd"
              exact q hf H5 (kp1.trans kp5) ⟨hM, hP, hInv', dx, a1, a2, a3, a4, crs', .non, d.next (R' := ⟨[], hd, sg, true⟩) kp5 hx5 hs5 hc5 ht1 rfl⟩
            | cons pc r =>
              obtain ⟨p, c2⟩ := pc
              have ewh : decide (V.int (((p, c2) :: r).length : Int) = .int 0) = false := decide_eq_false (by simp; omega)
              rw [ewh] at hx5 ⊢
              refine iT rfl ?_
              obtain ⟨hsn, _, _⟩ := hI.stk (s0, c0) (by simp)
              obtain ⟨hpn, hcn, hcs⟩ := hI.stk (p, c2) (by simp)
              have sO5 := hide_same [x, a5, a6] H5
              have hs5' : H5 a5 = some (.lst (nums ((r.map (·.1)).reverse) ++ [.int (p : Int)])) := by
                rw [hs5, List.map_cons, List.reverse_cons, nums, List.map_append]
                rfl
              obtain ⟨rs', rr, row, e1, e2, e3, e4⟩ := steps_get hM (d.steps.mono (Same.trans kp5 sO5)) hpn hsn
              walk_at "rd"
              refine i_ixl (.of hs5') (atI_last _ _) ?_
              refine i_ixl (.of e1) e2 ?_
              walk_at "rd"
              refine i_ixl (.of e3) e4 ?_
              walk_at "rd"
              refine i_gsub ?_
              walk_at "rd"
              refine i_setLast hs5' ?_
              refine q hf _ ((kp1.trans kp5).trans KeepR.put5) ⟨hM, hP, hInv', dx, a1, a2, a3, a4, crs', .non, d.next (R' := ⟨(sp M.steps p s0, c2) :: r, hd, sg, false⟩) (kp5.trans KeepR.put5) ?_ ?_ ?_ ht1 rfl⟩
              · rw [upd_ne d.nx5]; exact hx5
              · rw [upd_same, List.map_cons, List.reverse_cons]; exact congrArg (fun l => some (HO.lst l)) (nums_snoc _ _).symm
              · rw [upd_ne d.ne.symm]; exact hc5
        · refine iF (decide_eq_false h41) ?_
          walk_at "rd"
          refine i_slS (by omega) ?_
          walk_at "rd"
          rw [cut_end]
          cases hc : colonEnd R.head with
          | true =>
            refine iteT ?_
            have eT : takeS M R c = { R with signs := R.signs + 1 } := by
              unfold takeS
              rw [if_neg h40, if_neg h41, if_pos hc]
            walk_at "rd"
            refine i_sfldv hx T.cl T.nSigns rf_len ?_
            rw [show ((R.signs : Int) + 1) = ((R.signs + 1 : Nat) : Int) by omega, rf_psigns]
            refine q hf _ (kp1.trans KeepR.put) ⟨hM, hP, hInv', dx, a1, a2, a3, a4, crs, inn, ?_⟩
            rw [eT]
            exact d.put { R with signs := R.signs + 1 } inn rfl (d.inner.imp id fun ⟨ai, e, h⟩ => ⟨ai, e, h⟩)
          | false =>
            refine iteF ?_
            have eT : takeS M R c = { R with head := R.head ++ [c] } := by
              unfold takeS
              rw [if_neg h40, if_neg h41, if_neg (by rw [hc]; simp)]
            walk_at "rd"
            refine i_adds (by simp; omega) ?_
            walk_at "rd"
            refine i_sfldv hx T.cl T.nHead rf_len ?_
            rw [rf_phead]
            refine q hf _ (kp1.trans KeepR.put) ⟨hM, hP, hInv', dx, a1, a2, a3, a4, crs, inn, ?_⟩
            rw [eT]
            exact d.put { R with head := R.head ++ [c] } inn rfl (d.inner.imp id fun ⟨ai, e, h⟩ => ⟨ai, e, h⟩)
end
/-! ## 37. A reader is made -/
/-- what is not in the first heap -/
def fresh (H0 H : Hp) : Hp := fun b => if (H0 b).isSome then none else H b
theorem fresh_same (H0 H : Hp) : Same (fresh H0 H) H := fun b o h => by
  unfold fresh at h
  split at h
  · cases h
  · exact h
theorem fresh_get {H0 H : Hp} {b : Addr} {o : HO} (h : H0 b = none) (e : H b = some o) : fresh H0 H b = some o := by
  unfold fresh
  rw [h, if_neg (by simp)]
  exact e
theorem fresh_inv {H0 H : Hp} {b : Addr} {o : HO} (h : fresh H0 H b = some o) : H0 b = none ∧ H b = some o := by
  unfold fresh at h
  split at h
  · cases h
  · rename_i hn
    exact ⟨by simpa using hn, h⟩
theorem fresh_mono {H0 H H' : Hp} (s : Same H H') : Same (fresh H0 H) (fresh H0 H') := fun b o h => fresh_get (fresh_inv h).1 (s _ _ (fresh_inv h).2)
theorem same_none {H H' : Hp} (s : Same H H') {p : Addr} (h : H' p = none) : H p = none := by
  cases e : H p with
  | none => rfl
  | some o => rw [s _ _ e] at h; cases h
/-- .. and not x -/
abbrev nw (H0 : Hp) (x : Addr) (H : Hp) : Hp := hide [x] (fresh H0 H)
theorem nw_mono {H0 H H' : Hp} {x : Addr} (s : Same H H') : Same (nw H0 x H) (nw H0 x H') := hide_mono (fresh_mono s)
theorem fresh_upd {H0 H : Hp} {x : Addr} {o : HO} (h : H0 x = none) : fresh H0 (upd H x o) = upd (fresh H0 H) x o := by
  funext b
  unfold fresh
  by_cases e : b = x
  · subst e
    rw [h, upd_same, if_neg (by simp), upd_same]
  · rw [upd_ne e, upd_ne e]
theorem nw_upd {H0 H : Hp} {x : Addr} {o : HO} (h : H0 x = none) : nw H0 x (upd H x o) = nw H0 x H := by
  show hide [x] (fresh H0 (upd H x o)) = _
  rw [fresh_upd h]
  exact hide_upd (by simp)
theorem nw_get {H0 H H1 : Hp} {x p : Addr} {u o : HO} (s : Same H0 H) (hx : H x = some u) (hp : H p = none) (h1 : H1 p = some o) : nw H0 x H1 p = some o := by
  show hide [x] _ p = _
  rw [hide_get]
  · exact fresh_get (same_none s hp) h1
  · intro hm
    rw [List.mem_singleton] at hm
    rw [hm, hx] at hp; cases hp
theorem nw_own {H0 H H' : Hp} {x a5 a6 : Addr} (s : Same (nw H0 x H) (nw H0 x H')) (h5 : H a5 = none) (h6 : H a6 = none) : Same (nw H0 x H) (own3 x a5 a6 (fresh H0 H')) := fun b o e => by
  have e1 := s _ _ e
  have hb : H b = some o := (fresh_inv (hide_same _ _ _ _ e)).2
  have e2 := hide_same _ _ _ _ e1
  show hide [x, a5, a6] _ b = _
  rw [hide_get]
  · exact e2
  · intro hm
    simp only [List.mem_cons, List.not_mem_nil, or_false] at hm
    rcases hm with rfl | rfl | rfl
    · have e' : hide [b] (fresh H0 H) b = some o := e
      rw [hide_none (by simp)] at e'; cases e'
    · rw [h5] at hb; cases hb
    · rw [h6] at hb; cases hb
/-- a comprehension that makes one new object of each -/
theorem copy_lc {K : PySem.W.Frag} {j : Nat} {σ : L2.St} {te : TE} {Q : VK} {β : Type} {src dst : β → HO} {a : Addr} {rs : List Addr} {bs : List β} {H : Hp} (h : H a = some (.lst (rs.map V.ref))) (pr : Paired (fun r b => H r = some (src b)) rs bs) (hz : rs.length ≤ 1000)
    (hte : ∀ (r : Addr) (b : β) (H' : Hp) (Q' : VK), H' r = some (src b) → (∀ p, H' p = none → Q' (.ref p) (upd H' p (dst b))) → te ((wipe σ [j]).set j (some (.ref r))) H' Q')
    (q : ∀ (D : Addr) (H' : Hp) (ps : List Addr), H D = none → Same H H' → (∀ p ∈ ps, H p = none ∧ p ≠ D) → H' D = some (.lst (ps.map V.ref)) → Paired (fun p b => H' p = some (dst b)) ps bs → Q (.ref D) H') :
    LCW (gName j) tYes te [j] σ Q (Itl K a) H := by
  refine fun D hD => lc_list (K := K) (a := a) (xs := rs.map V.ref) (fun i H' => Same H H' ∧ ∃ ps : List Addr, (∀ p ∈ ps, H p = none ∧ p ≠ D) ∧ H' D = some (.lst (ps.map V.ref)) ∧ Paired (fun p b => H' p = some (dst b)) ps (bs.take i))
    ⟨same_new hD _, [], (fun _ h => by cases h), upd_same, .nil⟩ (fun i H' _ h' => .of (h'.1 _ _ h)) ?_ ?_
  · rintro i y H' hi ⟨sm, ps, hps, hD', pp⟩
    obtain ⟨r, hr, rfl⟩ := get_map hi
    obtain ⟨b, hb, hrb⟩ := paired_get pr hr
    have hlt : i < rs.length := (List.getElem?_eq_some_iff.mp hr).1
    refine i_gname ?_
    refine ⟨by show ((wipe σ []).set j none |>.set j (some (V.ref r))).set j none = _; simp [wipe], ?_⟩
    refine i_yes (iteT ?_)
    refine hte r b H' _ (sm _ _ hrb) fun p hp => ?_
    have npD : D ≠ p := ne_of_none hD' hp
    refine ⟨ps.map V.ref, by rw [upd_ne npD]; exact hD', ?_, smut (smut sm (same_none sm hp) _) hD _, ps ++ [p], ?_, ?_, ?_⟩
    · rw [List.length_map, Paired.length pp]
      have := List.length_take_le' i bs
      have := Paired.length pr
      exact small_line' (by omega)
    · intro p' hp'
      rcases List.mem_append.mp hp' with hp' | hp'
      · exact hps _ hp'
      · rw [List.mem_singleton] at hp'
        rw [hp']
        exact ⟨same_none sm hp, npD.symm⟩
    · rw [upd_same, List.map_append]; rfl
    · rw [take_snoc hb]
      refine paired_snoc ?_ (by rw [upd_ne npD.symm]; exact upd_same)
      refine paired_upd.paired_with pp fun p' b' hm e => ?_
      rw [upd_ne (hps _ hm).2, upd_ne (ne_of_none e hp)]
      exact e
  · rintro H' ⟨sm, ps, hps, hD', pp⟩
    rw [List.take_of_length_le (by rw [List.length_map, Paired.length pr]; exact Nat.le_refl _)] at pp
    exact q D H' ps hD sm hps hD' pp
section
variable {a1 a2 a3 a4 a5 a6 : Addr}
theorem ini_0 : putF "starts" (.ref a1) ([] : List (Str × V)) = ([("starts", .ref a1)] : List (Str × V)) := by kernel_rfl
theorem ini_1 : putF "steps" (.ref a2) ([("starts", .ref a1)] : List (Str × V)) = ([("starts", .ref a1), ("steps", .ref a2)] : List (Str × V)) := by kernel_rfl
theorem ini_2 : putF "good" (.ref a3) ([("starts", .ref a1), ("steps", .ref a2)] : List (Str × V)) = ([("starts", .ref a1), ("steps", .ref a2), ("good", .ref a3)] : List (Str × V)) := by kernel_rfl
theorem ini_3 : putF "prices" (.ref a4) ([("starts", .ref a1), ("steps", .ref a2), ("good", .ref a3)] : List (Str × V)) = ([("starts", .ref a1), ("steps", .ref a2), ("good", .ref a3), ("prices", .ref a4)] : List (Str × V)) := by kernel_rfl
theorem ini_4 : putF "states" (.ref a5) ([("starts", .ref a1), ("steps", .ref a2), ("good", .ref a3), ("prices", .ref a4)] : List (Str × V)) = ([("starts", .ref a1), ("steps", .ref a2), ("good", .ref a3), ("prices", .ref a4), ("states", .ref a5)] : List (Str × V)) := by kernel_rfl
theorem ini_5 : putF "costs" (.ref a6) ([("starts", .ref a1), ("steps", .ref a2), ("good", .ref a3), ("prices", .ref a4), ("states", .ref a5)] : List (Str × V)) = ([("starts", .ref a1), ("steps", .ref a2), ("good", .ref a3), ("prices", .ref a4), ("states", .ref a5), ("costs", .ref a6)] : List (Str × V)) := by kernel_rfl
theorem ini_6 : putF "inner" (.non) ([("starts", .ref a1), ("steps", .ref a2), ("good", .ref a3), ("prices", .ref a4), ("states", .ref a5), ("costs", .ref a6)] : List (Str × V)) = ([("starts", .ref a1), ("steps", .ref a2), ("good", .ref a3), ("prices", .ref a4), ("states", .ref a5), ("costs", .ref a6), ("inner", .non)] : List (Str × V)) := by kernel_rfl
theorem ini_7 : putF "head" (.str (S [])) ([("starts", .ref a1), ("steps", .ref a2), ("good", .ref a3), ("prices", .ref a4), ("states", .ref a5), ("costs", .ref a6), ("inner", .non)] : List (Str × V)) = ([("starts", .ref a1), ("steps", .ref a2), ("good", .ref a3), ("prices", .ref a4), ("states", .ref a5), ("costs", .ref a6), ("inner", .non), ("head", .str (S []))] : List (Str × V)) := by kernel_rfl
theorem ini_8 : putF "signs" (.int 0) ([("starts", .ref a1), ("steps", .ref a2), ("good", .ref a3), ("prices", .ref a4), ("states", .ref a5), ("costs", .ref a6), ("inner", .non), ("head", .str (S []))] : List (Str × V)) = ([("starts", .ref a1), ("steps", .ref a2), ("good", .ref a3), ("prices", .ref a4), ("states", .ref a5), ("costs", .ref a6), ("inner", .non), ("head", .str (S [])), ("signs", .int 0)] : List (Str × V)) := by kernel_rfl
theorem ini_9 : putF "whole" (.bl false) ([("starts", .ref a1), ("steps", .ref a2), ("good", .ref a3), ("prices", .ref a4), ("states", .ref a5), ("costs", .ref a6), ("inner", .non), ("head", .str (S [])), ("signs", .int 0)] : List (Str × V)) = ([("starts", .ref a1), ("steps", .ref a2), ("good", .ref a3), ("prices", .ref a4), ("states", .ref a5), ("costs", .ref a6), ("inner", .non), ("head", .str (S [])), ("signs", .int 0), ("whole", .bl false)] : List (Str × V)) := by kernel_rfl
theorem ini_all : ([("starts", .ref a1), ("steps", .ref a2), ("good", .ref a3), ("prices", .ref a4), ("states", .ref a5), ("costs", .ref a6), ("inner", .non), ("head", .str (S [])), ("signs", .int 0), ("whole", .bl false)] : List (Str × V)) = rf a1 a2 a3 a4 a5 a6 .non [] 0 false := by kernel_rfl
end
abbrev mkRM (M : Mac) (pr : Cs) : RM := { toMac := M, prices := pr }
def spInit (C : Addr) : Sp := fun vs H Q _ => ∃ (x m dx : Addr) (H0 : Hp) (M : Mac), vs = [.ref x, .ref m] ∧ Same H0 H ∧ H0 x = none ∧ H x = some (.ins C dx []) ∧ MacAt H0 m M ∧ M.Ok ∧
  ∀ (H' : Hp) (a5 a6 : Addr) (pr : Cs), Same H0 H' → RdrAt C (mkRM M pr) (fresh H0 H') x a5 a6 R0 → Q .non H'
abbrev NInit : List Str := ["self", "machine", "pair", "row"]
theorem scInit : FnScope NInit ["self", "machine"] (defScope sInit) := ⟨rfl, rfl, rfl, by decide +kernel, rfl, by decide +kernel, by decide +kernel⟩
section
variable {P : Program} {w : World} {K : PySem.W.Frag} {mg : Str → Option Value} {base : Heap} {C CN : Addr}
theorem ok_init {f : Addr} {fd : FuncData} (F : Fun K "__init__" "Reader.__init__" sInit f fd) (T : Txt K mg C) (cal_prices_of : Cal P w K mg base CX0 "prices_of" 4 ["machine"] spPof) :
    FnOk P w K mg base CX0 5 f fd ["self", "machine"] (spInit C) := by
  refine F.ok scInit (fun vs H Q E h => ?_) (fun cdv A outer s H vs Q E hr h => ?_)
  · obtain ⟨x, m, dx, H0, M, rfl, _⟩ := h
    rfl
  · obtain ⟨x, m, dx, H0, M, rfl, s0, hx0, hx, hm, hM, q⟩ := h
    refine ⟨_, (pss_cons (ps_fld (pv 0) (pe_lc (own := [("pair", 2)]) (g := gName 2) (tt := tYes) (te := tTup (tCons (tOp (rIxT K) (tVar 2) (tC (.int 0))) (tCons (tOp (rIxT K) (tVar 2) (tC (.int 1))) tNil))) rfl scInit.nd (pi_list (pe_ix ix_tup (pv 1) pe_int (fun _ _ => rfl))) (blkOk_by (own := [("pair", 2)]) (N := NInit) (sc := defScope sInit) (by decide +kernel)) (fun _ _ _ _ _ => pg_name (i := 2) scInit.nd rfl (Or.inl rfl)) (fun _ _ _ _ _ => pts_nil) (fun _ _ _ _ _ => (pe_tup (pa_cons (pe_ix ix_tup (pv 2) pe_int (fun _ _ => rfl)) (pa_cons (pe_ix ix_tup (pv 2) pe_int (fun _ _ => rfl)) pa_nil))))) rfl)
    (pss_cons (ps_fld (pv 0) (pe_lc (own := [("row", 3)]) (g := gName 3) (tt := tYes) (te := tCB (rListOf K) (tCons (tVar 3) tNil)) rfl scInit.nd (pi_list (pe_ix ix_tup (pv 1) pe_int (fun _ _ => rfl))) (blkOk_by (own := [("row", 3)]) (N := NInit) (sc := defScope sInit) (by decide +kernel)) (fun _ _ _ _ _ => pg_name (i := 3) scInit.nd rfl (Or.inl rfl)) (fun _ _ _ _ _ => pts_nil) (fun _ _ _ _ _ => (pe_callTy call_listOf (by rfl) T.list (by decide +kernel) (pa_cons (pv 3) pa_nil)))) rfl)
    (pss_cons (ps_fld (pv 0) (pe_callTy call_listOf (by rfl) T.list (by decide +kernel) (pa_cons (pe_ix ix_tup (pv 1) pe_int (fun _ _ => rfl)) pa_nil)) rfl)
    (pss_cons (ps_fld (pv 0) (pcal cal_prices_of (hr.mono (by decide)) (pa_cons (pv 1) pa_nil)) rfl)
    (pss_cons (ps_fld (pv 0) (pe_lst pa_nil) rfl)
    (pss_cons (ps_fld (pv 0) (pe_lst pa_nil) rfl)
    (pss_cons (ps_fld (pv 0) pe_non rfl)
    (pss_cons (ps_fld (pv 0) (pes sl_lit4) rfl)
    (pss_cons (ps_fld (pv 0) pe_int rfl)
    (pss_one (ps_fld (pv 0) pe_bl rfl))))))))))), ?_⟩
    simp only [cx_K]
    obtain ⟨b1, b2, b3, h0, hst, hsp, hgd⟩ := id hm
    obtain ⟨ts, hts, pts⟩ := id hst
    obtain ⟨rs, hrs, prs⟩ := id hsp
    have hfew := hM.few
    have hsmall := hM.small
    -- the starts
    walk_at "rd"
    refine i_ixt (v := .ref b1) (.of (s0 _ _ h0)) (show atI _ ((0 : Nat) : Int) = _ from atI_nat rfl) ?_
    refine ⟨b1, rfl, ⟨_, .of (s0 _ _ hts)⟩, copy_lc (src := fun p : Tx × Nat => .tup [.str (S p.1), .int (p.2 : Int)]) (dst := fun p : Tx × Nat => .tup [.str (S p.1), .int (p.2 : Int)]) (s0 _ _ hts) (paired_mono pts fun _ _ e => s0 _ _ e) (by rw [Paired.length pts]; omega) ?_ fun a1 H1 ps ha1 s1 hps hD1 pp1 => ?_⟩
    · intro r p H' Q' hr hq
      walk_at "rd"
      refine i_ixt (v := .str (S p.1)) (.of hr) (show atI _ ((0 : Nat) : Int) = _ from atI_nat rfl) ?_
      walk_at "rd"
      refine i_ixt (v := .int (p.2 : Int)) (.of hr) (show atI _ ((1 : Nat) : Int) = _ from atI_nat rfl) ?_
      walk_at "rd"
      exact ⟨by show 2 ≤ sizeLine; decide, hq⟩
    have S1 : StartsAt (nw H0 x H1) a1 M.starts := ⟨ps, nw_get s0 hx ha1 hD1, paired_upd.paired_with pp1 fun p b hm e => nw_get s0 hx (hps p hm).1 e⟩
    have hx1 := s1 _ _ hx
    walk_at "rd"
    refine i_sfldv hx1 T.cl T.nStarts (by show 0 < 1000; decide) ?_
    rw [ini_0]
    have t1 : Same H0 (upd H1 x (.ins C dx [("starts", .ref a1)])) := smut (s0.trans s1) hx0 _
    rw [← nw_upd (o := (.ins C dx [("starts", .ref a1)])) hx0] at S1
    have hx1 : (upd H1 x (.ins C dx [("starts", .ref a1)])) x = some (.ins C dx [("starts", .ref a1)]) := upd_same
    clear pp1 hD1 hps s1
    generalize (upd H1 x (.ins C dx [("starts", .ref a1)])) = H1 at t1 S1 hx1 ⊢
    -- the steps
    walk_at "rd"
    refine i_ixt (v := .ref b2) (.of (t1 _ _ h0)) (show atI _ ((1 : Nat) : Int) = _ from atI_nat rfl) ?_
    refine ⟨b2, rfl, ⟨_, .of (t1 _ _ hrs)⟩, copy_lc (src := fun row : List Nat => .lst (nums row)) (dst := fun row : List Nat => .lst (nums row)) (t1 _ _ hrs) (paired_mono prs fun _ _ e => t1 _ _ e) (by rw [Paired.length prs]; exact Nat.le_trans hsmall (by decide)) ?_ fun a2 H2 ps ha2 s2 hps hD2 pp2 => ?_⟩
    · intro r p H' Q' hr hq
      walk_at "rd"
      exact i_listOf (.of hr) hq
    have S2 : StepsAt (nw H0 x H2) a2 M.steps := ⟨ps, nw_get t1 hx1 ha2 hD2, paired_upd.paired_with pp2 fun p b hm e => nw_get t1 hx1 (hps p hm).1 e⟩
    have S1 := S1.mono (nw_mono s2)
    have hx2 := s2 _ _ hx1
    walk_at "rd"
    refine i_sfldv hx2 T.cl T.nSteps (by show 1 < 1000; decide) ?_
    rw [ini_1]
    have t2 : Same H0 (upd H2 x (.ins C dx [("starts", .ref a1), ("steps", .ref a2)])) := smut (t1.trans s2) hx0 _
    rw [← nw_upd (o := (.ins C dx [("starts", .ref a1), ("steps", .ref a2)])) hx0] at S1 S2
    have hx2 : (upd H2 x (.ins C dx [("starts", .ref a1), ("steps", .ref a2)])) x = some (.ins C dx [("starts", .ref a1), ("steps", .ref a2)]) := upd_same
    clear pp2 hD2 hps s2
    generalize (upd H2 x (.ins C dx [("starts", .ref a1), ("steps", .ref a2)])) = H2 at t2 S1 S2 hx2 ⊢
    -- the good states
    walk_at "rd"
    refine i_ixt (v := .ref b3) (.of (t2 _ _ h0)) (show atI _ ((2 : Nat) : Int) = _ from atI_nat rfl) ?_
    walk_at "rd"
    refine i_listOf (.of (t2 _ _ hgd)) fun a3 ha3 => ?_
    have s3 : Same H2 (upd H2 a3 (.lst (nums M.good))) := same_new ha3 _
    have S3 : nw H0 x (upd H2 a3 (.lst (nums M.good))) a3 = some (.lst (nums M.good)) := nw_get t2 hx2 ha3 upd_same
    have S1 := S1.mono (nw_mono s3)
    have S2 := S2.mono (nw_mono s3)
    have hx3 := s3 _ _ hx2
    have t3 := t2.trans s3
    generalize (upd H2 a3 (.lst (nums M.good))) = H3 at s3 t3 S1 S2 S3 hx3 ⊢
    walk_at "rd"
    refine i_sfldv hx3 T.cl T.nGood (by show 2 < 1000; decide) ?_
    rw [ini_2]
    have t3 : Same H0 (upd H3 x (.ins C dx [("starts", .ref a1), ("steps", .ref a2), ("good", .ref a3)])) := smut t3 hx0 _
    rw [← nw_upd (o := (.ins C dx [("starts", .ref a1), ("steps", .ref a2), ("good", .ref a3)])) hx0] at S1 S2 S3
    have hx3 : (upd H3 x (.ins C dx [("starts", .ref a1), ("steps", .ref a2), ("good", .ref a3)])) x = some (.ins C dx [("starts", .ref a1), ("steps", .ref a2), ("good", .ref a3)]) := upd_same
    clear s3
    generalize (upd H3 x (.ins C dx [("starts", .ref a1), ("steps", .ref a2), ("good", .ref a3)])) = H3 at t3 S1 S2 S3 hx3 ⊢
    -- the prices
    walk_at "rd"
    refine ⟨m, M, rfl, hm.mono t3, hM, fun a4 pr H4 s4 ha4 hD4 okp => ?_⟩
    have S4 : nw H0 x H4 a4 = some (.lst (opts pr)) := nw_get t3 hx3 ha4 hD4
    have S1 := S1.mono (nw_mono s4)
    have S2 := S2.mono (nw_mono s4)
    have S3 := nw_mono (H0 := H0) (x := x) s4 _ _ S3
    have hx4 := s4 _ _ hx3
    walk_at "rd"
    refine i_sfldv hx4 T.cl T.nPrices (by show 3 < 1000; decide) ?_
    rw [ini_3]
    have t4 : Same H0 (upd H4 x (.ins C dx [("starts", .ref a1), ("steps", .ref a2), ("good", .ref a3), ("prices", .ref a4)])) := smut (t3.trans s4) hx0 _
    rw [← nw_upd (o := (.ins C dx [("starts", .ref a1), ("steps", .ref a2), ("good", .ref a3), ("prices", .ref a4)])) hx0] at S1 S2 S3 S4
    have hx4 : (upd H4 x (.ins C dx [("starts", .ref a1), ("steps", .ref a2), ("good", .ref a3), ("prices", .ref a4)])) x = some (.ins C dx [("starts", .ref a1), ("steps", .ref a2), ("good", .ref a3), ("prices", .ref a4)]) := upd_same
    clear hD4 s4
    generalize (upd H4 x (.ins C dx [("starts", .ref a1), ("steps", .ref a2), ("good", .ref a3), ("prices", .ref a4)])) = H4 at t4 S1 S2 S3 S4 hx4 ⊢
    -- the pile
    walk_at "rd"
    refine ⟨by show 0 ≤ sizeLine; exact Nat.zero_le _, fun a5 ha5 => ?_⟩
    have s5 : Same H4 (upd H4 a5 (.lst [])) := same_new ha5 _
    have hx5 := s5 _ _ hx4
    have n5 : a5 ≠ x := (ne_of_none hx4 ha5).symm
    have h05 := same_none t4 ha5
    walk_at "rd"
    refine i_sfldv hx5 T.cl T.nStates (by show 4 < 1000; decide) ?_
    rw [ini_4]
    have t5 : Same H0 (upd (upd H4 a5 (.lst [])) x (.ins C dx [("starts", .ref a1), ("steps", .ref a2), ("good", .ref a3), ("prices", .ref a4), ("states", .ref a5)])) := smut (t4.trans s5) hx0 _
    have u5 : Same (nw H0 x H4) (nw H0 x (upd (upd H4 a5 (.lst [])) x (.ins C dx [("starts", .ref a1), ("steps", .ref a2), ("good", .ref a3), ("prices", .ref a4), ("states", .ref a5)]))) := by rw [nw_upd hx0]; exact nw_mono s5
    have hD5 : (upd (upd H4 a5 (.lst [])) x (.ins C dx [("starts", .ref a1), ("steps", .ref a2), ("good", .ref a3), ("prices", .ref a4), ("states", .ref a5)])) a5 = some (.lst []) := by rw [upd_ne n5]; exact upd_same
    have hx5 : (upd (upd H4 a5 (.lst [])) x (.ins C dx [("starts", .ref a1), ("steps", .ref a2), ("good", .ref a3), ("prices", .ref a4), ("states", .ref a5)])) x = some (.ins C dx [("starts", .ref a1), ("steps", .ref a2), ("good", .ref a3), ("prices", .ref a4), ("states", .ref a5)]) := upd_same
    have h45 : ∀ p, (upd (upd H4 a5 (.lst [])) x (.ins C dx [("starts", .ref a1), ("steps", .ref a2), ("good", .ref a3), ("prices", .ref a4), ("states", .ref a5)])) p = none → H4 p = none := fun p hp => by
      by_cases e : p = x
      · rw [e, upd_same] at hp; cases hp
      · rw [upd_ne e] at hp
        exact same_none s5 hp
    generalize (upd (upd H4 a5 (.lst [])) x (.ins C dx [("starts", .ref a1), ("steps", .ref a2), ("good", .ref a3), ("prices", .ref a4), ("states", .ref a5)])) = H5 at t5 u5 hD5 hx5 h45 ⊢
    -- the costs
    walk_at "rd"
    refine ⟨by show 0 ≤ sizeLine; exact Nat.zero_le _, fun a6 ha6 => ?_⟩
    have s6 : Same H5 (upd H5 a6 (.lst [])) := same_new ha6 _
    have hx6 := s6 _ _ hx5
    have n6 : a6 ≠ x := (ne_of_none hx5 ha6).symm
    have n56 : a5 ≠ a6 := ne_of_none hD5 ha6
    have h06 := same_none t5 ha6
    have h46 := h45 _ ha6
    walk_at "rd"
    refine i_sfldv hx6 T.cl T.nCosts (by show 5 < 1000; decide) ?_
    rw [ini_5]
    have hx6 : (upd (upd H5 a6 (.lst [])) x (.ins C dx [("starts", .ref a1), ("steps", .ref a2), ("good", .ref a3), ("prices", .ref a4), ("states", .ref a5), ("costs", .ref a6)])) x = some (.ins C dx [("starts", .ref a1), ("steps", .ref a2), ("good", .ref a3), ("prices", .ref a4), ("states", .ref a5), ("costs", .ref a6)]) := upd_same
    walk_at "rd"
    refine i_sfldv hx6 T.cl T.nInner (by show 6 < 1000; decide) ?_
    rw [ini_6]
    have hx7 : (upd (upd (upd H5 a6 (.lst [])) x (.ins C dx [("starts", .ref a1), ("steps", .ref a2), ("good", .ref a3), ("prices", .ref a4), ("states", .ref a5), ("costs", .ref a6)])) x (.ins C dx [("starts", .ref a1), ("steps", .ref a2), ("good", .ref a3), ("prices", .ref a4), ("states", .ref a5), ("costs", .ref a6), ("inner", .non)])) x = some (.ins C dx [("starts", .ref a1), ("steps", .ref a2), ("good", .ref a3), ("prices", .ref a4), ("states", .ref a5), ("costs", .ref a6), ("inner", .non)]) := upd_same
    walk_at "rd"
    refine i_sfldv hx7 T.cl T.nHead (by show 7 < 1000; decide) ?_
    rw [ini_7]
    have hx8 : (upd (upd (upd (upd H5 a6 (.lst [])) x (.ins C dx [("starts", .ref a1), ("steps", .ref a2), ("good", .ref a3), ("prices", .ref a4), ("states", .ref a5), ("costs", .ref a6)])) x (.ins C dx [("starts", .ref a1), ("steps", .ref a2), ("good", .ref a3), ("prices", .ref a4), ("states", .ref a5), ("costs", .ref a6), ("inner", .non)])) x (.ins C dx [("starts", .ref a1), ("steps", .ref a2), ("good", .ref a3), ("prices", .ref a4), ("states", .ref a5), ("costs", .ref a6), ("inner", .non), ("head", .str (S []))])) x = some (.ins C dx [("starts", .ref a1), ("steps", .ref a2), ("good", .ref a3), ("prices", .ref a4), ("states", .ref a5), ("costs", .ref a6), ("inner", .non), ("head", .str (S []))]) := upd_same
    walk_at "rd"
    refine i_sfldv hx8 T.cl T.nSigns (by show 8 < 1000; decide) ?_
    rw [ini_8]
    have hx9 : (upd (upd (upd (upd (upd H5 a6 (.lst [])) x (.ins C dx [("starts", .ref a1), ("steps", .ref a2), ("good", .ref a3), ("prices", .ref a4), ("states", .ref a5), ("costs", .ref a6)])) x (.ins C dx [("starts", .ref a1), ("steps", .ref a2), ("good", .ref a3), ("prices", .ref a4), ("states", .ref a5), ("costs", .ref a6), ("inner", .non)])) x (.ins C dx [("starts", .ref a1), ("steps", .ref a2), ("good", .ref a3), ("prices", .ref a4), ("states", .ref a5), ("costs", .ref a6), ("inner", .non), ("head", .str (S []))])) x (.ins C dx [("starts", .ref a1), ("steps", .ref a2), ("good", .ref a3), ("prices", .ref a4), ("states", .ref a5), ("costs", .ref a6), ("inner", .non), ("head", .str (S [])), ("signs", .int 0)])) x = some (.ins C dx [("starts", .ref a1), ("steps", .ref a2), ("good", .ref a3), ("prices", .ref a4), ("states", .ref a5), ("costs", .ref a6), ("inner", .non), ("head", .str (S [])), ("signs", .int 0)]) := upd_same
    walk_at "rd"
    refine i_sfldv hx9 T.cl T.nWhole (by show 9 < 1000; decide) ?_
    rw [ini_9, ini_all]
    walk_at "rd"
    have tf : Same H0 (upd (upd (upd (upd (upd (upd H5 a6 (.lst [])) x (.ins C dx [("starts", .ref a1), ("steps", .ref a2), ("good", .ref a3), ("prices", .ref a4), ("states", .ref a5), ("costs", .ref a6)])) x (.ins C dx [("starts", .ref a1), ("steps", .ref a2), ("good", .ref a3), ("prices", .ref a4), ("states", .ref a5), ("costs", .ref a6), ("inner", .non)])) x (.ins C dx [("starts", .ref a1), ("steps", .ref a2), ("good", .ref a3), ("prices", .ref a4), ("states", .ref a5), ("costs", .ref a6), ("inner", .non), ("head", .str (S []))])) x (.ins C dx [("starts", .ref a1), ("steps", .ref a2), ("good", .ref a3), ("prices", .ref a4), ("states", .ref a5), ("costs", .ref a6), ("inner", .non), ("head", .str (S [])), ("signs", .int 0)])) x (.ins C dx (rf a1 a2 a3 a4 a5 a6 .non [] 0 false))) :=
      smut (smut (smut (smut (smut (t5.trans s6) hx0 _) hx0 _) hx0 _) hx0 _) hx0 _
    have uf : Same (nw H0 x H4) (nw H0 x (upd (upd (upd (upd (upd (upd H5 a6 (.lst [])) x (.ins C dx [("starts", .ref a1), ("steps", .ref a2), ("good", .ref a3), ("prices", .ref a4), ("states", .ref a5), ("costs", .ref a6)])) x (.ins C dx [("starts", .ref a1), ("steps", .ref a2), ("good", .ref a3), ("prices", .ref a4), ("states", .ref a5), ("costs", .ref a6), ("inner", .non)])) x (.ins C dx [("starts", .ref a1), ("steps", .ref a2), ("good", .ref a3), ("prices", .ref a4), ("states", .ref a5), ("costs", .ref a6), ("inner", .non), ("head", .str (S []))])) x (.ins C dx [("starts", .ref a1), ("steps", .ref a2), ("good", .ref a3), ("prices", .ref a4), ("states", .ref a5), ("costs", .ref a6), ("inner", .non), ("head", .str (S [])), ("signs", .int 0)])) x (.ins C dx (rf a1 a2 a3 a4 a5 a6 .non [] 0 false)))) := by
      rw [nw_upd hx0, nw_upd hx0, nw_upd hx0, nw_upd hx0, nw_upd hx0]
      exact u5.trans (nw_mono s6)
    have hxf : (upd (upd (upd (upd (upd (upd H5 a6 (.lst [])) x (.ins C dx [("starts", .ref a1), ("steps", .ref a2), ("good", .ref a3), ("prices", .ref a4), ("states", .ref a5), ("costs", .ref a6)])) x (.ins C dx [("starts", .ref a1), ("steps", .ref a2), ("good", .ref a3), ("prices", .ref a4), ("states", .ref a5), ("costs", .ref a6), ("inner", .non)])) x (.ins C dx [("starts", .ref a1), ("steps", .ref a2), ("good", .ref a3), ("prices", .ref a4), ("states", .ref a5), ("costs", .ref a6), ("inner", .non), ("head", .str (S []))])) x (.ins C dx [("starts", .ref a1), ("steps", .ref a2), ("good", .ref a3), ("prices", .ref a4), ("states", .ref a5), ("costs", .ref a6), ("inner", .non), ("head", .str (S [])), ("signs", .int 0)])) x (.ins C dx (rf a1 a2 a3 a4 a5 a6 .non [] 0 false))) x = some (.ins C dx (rf a1 a2 a3 a4 a5 a6 .non [] 0 false)) := upd_same
    have h5f : (upd (upd (upd (upd (upd (upd H5 a6 (.lst [])) x (.ins C dx [("starts", .ref a1), ("steps", .ref a2), ("good", .ref a3), ("prices", .ref a4), ("states", .ref a5), ("costs", .ref a6)])) x (.ins C dx [("starts", .ref a1), ("steps", .ref a2), ("good", .ref a3), ("prices", .ref a4), ("states", .ref a5), ("costs", .ref a6), ("inner", .non)])) x (.ins C dx [("starts", .ref a1), ("steps", .ref a2), ("good", .ref a3), ("prices", .ref a4), ("states", .ref a5), ("costs", .ref a6), ("inner", .non), ("head", .str (S []))])) x (.ins C dx [("starts", .ref a1), ("steps", .ref a2), ("good", .ref a3), ("prices", .ref a4), ("states", .ref a5), ("costs", .ref a6), ("inner", .non), ("head", .str (S [])), ("signs", .int 0)])) x (.ins C dx (rf a1 a2 a3 a4 a5 a6 .non [] 0 false))) a5 = some (.lst []) := by
      rw [upd_ne n5, upd_ne n5, upd_ne n5, upd_ne n5, upd_ne n5, upd_ne n56]; exact hD5
    have h6f : (upd (upd (upd (upd (upd (upd H5 a6 (.lst [])) x (.ins C dx [("starts", .ref a1), ("steps", .ref a2), ("good", .ref a3), ("prices", .ref a4), ("states", .ref a5), ("costs", .ref a6)])) x (.ins C dx [("starts", .ref a1), ("steps", .ref a2), ("good", .ref a3), ("prices", .ref a4), ("states", .ref a5), ("costs", .ref a6), ("inner", .non)])) x (.ins C dx [("starts", .ref a1), ("steps", .ref a2), ("good", .ref a3), ("prices", .ref a4), ("states", .ref a5), ("costs", .ref a6), ("inner", .non), ("head", .str (S []))])) x (.ins C dx [("starts", .ref a1), ("steps", .ref a2), ("good", .ref a3), ("prices", .ref a4), ("states", .ref a5), ("costs", .ref a6), ("inner", .non), ("head", .str (S [])), ("signs", .int 0)])) x (.ins C dx (rf a1 a2 a3 a4 a5 a6 .non [] 0 false))) a6 = some (.lst []) := by
      rw [upd_ne n6, upd_ne n6, upd_ne n6, upd_ne n6, upd_ne n6]; exact upd_same
    generalize (upd (upd (upd (upd (upd (upd H5 a6 (.lst [])) x (.ins C dx [("starts", .ref a1), ("steps", .ref a2), ("good", .ref a3), ("prices", .ref a4), ("states", .ref a5), ("costs", .ref a6)])) x (.ins C dx [("starts", .ref a1), ("steps", .ref a2), ("good", .ref a3), ("prices", .ref a4), ("states", .ref a5), ("costs", .ref a6), ("inner", .non)])) x (.ins C dx [("starts", .ref a1), ("steps", .ref a2), ("good", .ref a3), ("prices", .ref a4), ("states", .ref a5), ("costs", .ref a6), ("inner", .non), ("head", .str (S []))])) x (.ins C dx [("starts", .ref a1), ("steps", .ref a2), ("good", .ref a3), ("prices", .ref a4), ("states", .ref a5), ("costs", .ref a6), ("inner", .non), ("head", .str (S [])), ("signs", .int 0)])) x (.ins C dx (rf a1 a2 a3 a4 a5 a6 .non [] 0 false))) = Hf at tf uf hxf h5f h6f ⊢
    have uo := nw_own uf ha5 h46
    exact q Hf a5 a6 pr tf ⟨hM, okp, rinv0 _, dx, a1, a2, a3, a4, [], .non, fresh_get hx0 hxf, fresh_get h05 h5f, fresh_get h06 h6f, n56, S1.mono uo, S2.mono uo, uo _ _ S3, uo _ _ S4, .nil, .inl rfl⟩
end
/-! ## 38. Refused, stays -/
abbrev dNums (ns : List Nat) : PyData := .list (ns.map fun (n : Nat) => PyData.int (n : Int))
theorem lay_nums : ∀ ns : List Nat, PyData.canLayAll0 (ns.map fun (n : Nat) => PyData.int (n : Int)) = true
  | [] => rfl
  | _ :: r => by
    simp only [List.map_cons, PyData.canLayAll0, PyData.canLay0, Bool.true_and]
    exact lay_nums r
theorem deep_nums : ∀ ns : List Nat, PyData.depthAll (ns.map fun (n : Nat) => PyData.int (n : Int)) = 0
  | [] => rfl
  | _ :: r => by
    simp only [List.map_cons, PyData.depthAll, PyData.depth]
    rw [deep_nums r]
    rfl
theorem shaped_nums (ns : List Nat) : SeqAt.shaped (dNums ns) = true := by
  unfold SeqAt.shaped
  simp only [PyData.canLay0, PyData.depth, lay_nums, deep_nums]
  rfl
theorem dps_nums {K : PySem.W.Frag} {H : Hp} : ∀ ns : List Nat, DpAll K H (nums ns) (ns.map fun (n : Nat) => PyData.int (n : Int))
  | [] => .nil
  | n :: r => .cons (.int _) (dps_nums r)
theorem dp_nums {K : PySem.W.Frag} {H : Hp} {a : Addr} {ns : List Nat} (h : H a = some (.lst (nums ns))) : Dp K H (.ref a) (dNums ns) := .lst (.of h) (dps_nums ns)
theorem eqv_nums (ns : List Nat) : PyData.eqv (dNums ns) (dNums ns) = true := SeqAt.eqv_refl _ (SeqAt.canLay_of_shaped (shaped_nums ns))
def spRefused (C : Addr) : Sp := fun vs H Q _ => ∃ (x a5 a6 : Addr) (M : RM) (R : RS) (c : Nat), vs = [.ref x, .str (S [c])] ∧ R.stk.length ≤ 100000 ∧ RdrAt C M H x a5 a6 R ∧ fitsS M R c = false ∧
  ∀ H' : Hp, KeepR x a5 a6 H H' → RdrAt C M H' x a5 a6 R → Q (.bl true) H'
abbrev NRefused : List Str := ["_law_reader", "_law_sign_here", "_law_refused_here"]
theorem scRefused : FnScope NRefused ["_law_reader", "_law_sign_here"] (defScope sRefused) := ⟨rfl, rfl, rfl, by decide +kernel, rfl, by decide +kernel, by decide +kernel⟩
def spStays (C : Addr) : Sp := spRefused C
abbrev NStays : List Str := ["_law_reader", "_law_sign_here", "_law_left", "_law_pile"]
theorem scStays : FnScope NStays ["_law_reader", "_law_sign_here"] (defScope sStays) := ⟨rfl, rfl, rfl, by decide +kernel, rfl, by decide +kernel, by decide +kernel⟩
theorem RdrAt.hx {C : Addr} {M : RM} {H : Hp} {x a5 a6 : Addr} {R : RS} (r : RdrAt C M H x a5 a6 R) : ∃ (dx a1 a2 a3 a4 : Addr) (inn : V), H x = some (.ins C dx (rf a1 a2 a3 a4 a5 a6 inn R.head R.signs R.whole)) := by
  obtain ⟨dx, a1, a2, a3, a4, crs, inn, d⟩ := r.data
  exact ⟨dx, a1, a2, a3, a4, inn, d.ins⟩
theorem i_methX {C : Addr} {m : Str} {sp : Sp} {E : L2.St → XK} {ta : TE} {t : TA} {σ : L2.St} {H : Hp} {Q : VK} (h : ta σ H fun x H1 => ∃ a dx fs, x = .ref a ∧ H1 a = some (.ins C dx fs) ∧ fs.lookup m = none ∧ t σ H1 fun vs H2 => sp (x :: vs) H2 Q (E σ)) : tMethX C m sp E ta t σ H Q := h
/-- an object apart from the three is still there -/
theorem keep_get {x a5 a6 : Addr} {H H' : Hp} (kp : KeepR x a5 a6 H H') {p : Addr} {o : HO} (h : own3 x a5 a6 H p = some o) : H' p = some o := hide_same _ _ _ _ (kp _ _ h)
section
variable {P : Program} {w : World} {K : PySem.W.Frag} {mg : Str → Option Value} {base : Heap} {C CN : Addr}
theorem ok_refused {f : Addr} {fd : FuncData} (F : Fun K "_law_refused" "_law_refused" sRefused f fd) (X : ExTxt K mg CN) (cal_take : CalM P w K mg base (L2.CX P w) C "take" 5 ["self", "sign"] (spTake C CN)) :
    FnOk P w K mg base CX0 6 f fd ["_law_reader", "_law_sign_here"] (spRefused C) := by
  refine F.ok scRefused (fun vs H Q E h => ?_) (fun cdv A outer s H vs Q E hr h => ?_)
  · obtain ⟨x, a5, a6, M, R, c, rfl, _⟩ := h
    rfl
  · obtain ⟨x, a5, a6, M, R, c, rfl, hdep, hRd, hf, q⟩ := h
    refine ⟨_, (pss_cons (ps_set (i := 2) scRefused.nd rfl (Or.inl rfl) pe_bl)
    (pss_cons (ps_try_only (tb := fun W => tDrop (tMethX C "take" (spTake C CN) (WE W) (tVar 0) (tCons (tVar 1) tNil))) (ts := fun _ _ _ => tAsg (tC (.bl true)) (gName 2)) (Wout := fun _ _ _ _ => False) rfl rfl ⟨rfl, by decide, Or.inl X.gC⟩ takes0
        (fun W pn xe tk _ => pss_one (ps_expr (pmethX cal_take (hr.mono (by decide)) (fun σ => passAt tk σ) (pv 0) (pa_cons (pv 1) pa_nil))))
        (fun _ _ _ _ _ _ _ => pss_one (ps_set (i := 2) scRefused.nd rfl (Or.inl rfl) pe_bl)))
    (pss_one (ps_ret (pv 2))))), ?_⟩
    simp only [cx_K]
    obtain ⟨dx, a1, a2, a3, a4, inn, hx⟩ := hRd.hx
    walk_at "rd"
    refine i_methX ?_
    walk_at "rd"
    refine ⟨x, dx, _, rfl, hx, rf_m5, ?_⟩
    walk_at "rd"
    refine ⟨x, a5, a6, M, R, c, rfl, hdep, hRd, fun e => ?_, fun _ H' kp rd => ?_⟩
    · rw [hf] at e; cases e
    · refine ⟨true, X.eF, fun _ a _ => ?_, fun e => Bool.noConfusion e⟩
      walk_at "rd"
      exact q H' kp rd
theorem ok_stays {f : Addr} {fd : FuncData} (F : Fun K "_law_stays" "_law_stays" sStays f fd) (T : Txt K mg C) (cal_left : CalM P w K mg base CX0 C "left" 4 ["self"] (spLeft C)) (cal_pile : CalM P w K mg base CX0 C "pile" 1 ["self"] (spPile C))
    (cal_refused : Cal P w K mg base CX0 "_law_refused" 6 ["_law_reader", "_law_sign_here"] (spRefused C)) : FnOk P w K mg base CX0 7 f fd ["_law_reader", "_law_sign_here"] (spStays C) := by
  refine F.ok scStays (fun vs H Q E h => ?_) (fun cdv A outer s H vs Q E hr h => ?_)
  · obtain ⟨x, a5, a6, M, R, c, rfl, _⟩ := h
    rfl
  · obtain ⟨x, a5, a6, M, R, c, rfl, hdep, hRd, hf, q⟩ := h
    refine ⟨_, (pss_cons (ps_set (i := 2) scStays.nd rfl (Or.inl rfl) (pmeth0 cal_left (hr.mono (by decide)) pass0 (pv 0)))
    (pss_cons (ps_set (i := 3) scStays.nd rfl (Or.inl rfl) (pmeth0 cal_pile (hr.mono (by decide)) pass0 (pv 0)))
    (pss_cons (ps_if (pt_not (pt_val (pcal cal_refused (hr.mono (by decide)) (pa_cons (pv 0) (pa_cons (pv 1) pa_nil)))))
      (pss_one (ps_ret pe_bl))
      pss_nil)
    (pss_one (ps_ret (pe_and (pe_cmpR op_eq (pmeth0 cal_left (hr.mono (by decide)) pass0 (pv 0)) (pv 2) (nomark _)) (pe_one (pe_cmpR (op_eqD hr.units) (pmeth0 cal_pile (hr.mono (by decide)) pass0 (pv 0)) (pv 3) (nomark _))))))))), ?_⟩
    simp only [cx_K]
    obtain ⟨dx, b1, b2, b3, b4, inn, hx⟩ := hRd.hx
    walk_at "rd"
    refine ⟨x, _, _, rfl, hx, rf_m6, ?_⟩
    walk_at "rd"
    refine ⟨x, a5, a6, M, R, rfl, hRd, fun H1 kp1 rd1 => ?_⟩
    obtain ⟨dx, b1, b2, b3, b4, inn, hx⟩ := rd1.hx
    walk_at "rd"
    refine ⟨x, _, _, rfl, hx, rf_m8, ?_⟩
    walk_at "rd"
    refine ⟨x, a5, a6, M, R, rfl, rd1, fun p H2 s2 hp hp2 => ?_⟩
    have rd2 := rd1.mono s2
    walk_at "rd"
    refine ⟨x, a5, a6, M, R, c, rfl, hdep, rd2, hf, fun H3 kp3 rd3 => ?_⟩
    refine i_k (iteF ?_)
    walk_at "rd"
    obtain ⟨dx3, c1, c2, c3, c4, inn3, hx3⟩ := rd3.hx
    refine ⟨x, _, _, rfl, hx3, rf_m6, ?_⟩
    walk_at "rd"
    refine ⟨x, a5, a6, M, R, rfl, rd3, fun H4 kp4 rd4 => ?_⟩
    walk_at "rd"
    refine i_eq (by cases leftS M R <;> rfl) ?_
    refine i_k ?_
    refine iT (decide_eq_true rfl) ?_
    obtain ⟨dx4, e1, e2, e3, e4, inn4, hx4⟩ := rd4.hx
    walk_at "rd"
    refine ⟨x, _, _, rfl, hx4, rf_m8, ?_⟩
    walk_at "rd"
    refine ⟨x, a5, a6, M, R, rfl, rd4, fun p' H5 s5 hp' hp5 => ?_⟩
    walk_at "rd"
    obtain ⟨_, _, _, _, _, _, _, d1⟩ := rd1.data
    have ho : own3 x a5 a6 H2 p = some (.lst (nums ((R.stk.map (·.1)).reverse))) := d1.own_new hp hp2
    have h5 := s5 _ _ (keep_get (kp3.trans kp4) ho)
    refine ⟨_, _, dp_nums hp5, dp_nums h5, shaped_nums _, shaped_nums _, ?_⟩
    rw [eqv_nums]
    exact q H5 (((kp1.trans (KeepR.of s2)).trans kp3).trans (kp4.trans (KeepR.of s5))) (rd4.mono s5)
end
/-! ## 39. How far a line passes -/
def spPasses (K : PySem.W.Frag) (C : Addr) : Sp := fun vs H Q _ => ∃ (a x a5 a6 : Addr) (ns : List Int) (k : Int) (M : RM) (R : RS) (l : Tx), vs = [.ref a, .int k, .ref x, .str (S l)] ∧ SqL K (own3 x a5 a6 H) a (ns.map V.int) ∧ 0 ≤ k ∧ k ≤ 50000 ∧ l.length ≤ 50000 ∧ R.stk.length + l.length ≤ 100000 ∧
  RdrAt C M H x a5 a6 R ∧ ∀ (H' : Hp) (R' : RS), KeepR x a5 a6 H H' → RdrAt C M H' x a5 a6 R' → (passS M R l = l.length → goS M R l = some R') → Q (.int (passS M R l : Int)) H'
abbrev NPasses : List Str := ["_law_script", "_law_k", "_law_reader", "_law_line", "_law_j", "_law_number", "_law_other"]
theorem scPasses : FnScope NPasses ["_law_script", "_law_k", "_law_reader", "_law_line"] (defScope sPasses) := ⟨rfl, rfl, rfl, by decide +kernel, rfl, by decide +kernel, by decide +kernel⟩
theorem goS_snoc {M : RM} : ∀ {a : Tx} {R R1 : RS} {c : Nat}, goS M R a = some R1 → fitsS M R1 c = true → goS M R (a ++ [c]) = some (takeS M R1 c)
  | [], R, R1, c, h, f => by
    cases h
    show (if fitsS M R c = true then goS M (takeS M R c) [] else none) = _
    rw [if_pos f]; rfl
  | b :: a, R, R1, c, h, f => by
    obtain ⟨h1, h2⟩ := goS_cons h
    show (if fitsS M R b = true then goS M (takeS M R b) (a ++ [c]) else none) = _
    rw [if_pos h1]
    exact goS_snoc h2 f
theorem stk_take (M : RM) (R : RS) (c : Nat) : (takeS M R c).stk.length ≤ R.stk.length + 1 := by
  unfold takeS
  split
  · simp
  · split
    · split
      · exact Nat.le_succ _
      · exact Nat.zero_le _
      · rename_i e
        rw [e]
        simp
    · split <;> exact Nat.le_succ _
theorem byQ {T : L2.St → Hp → (Bool → Hp → Prop) → Prop} {σ : L2.St} {H : Hp} {Qc : Bool → Hp → Prop} (G : (Bool → Hp → Prop) → Prop) (key : ∀ Qc, G Qc → T σ H Qc) (rest : G Qc) : T σ H Qc := key Qc rest
section
variable {P : Program} {w : World} {K : PySem.W.Frag} {mg : Str → Option Value} {base : Heap} {C CN : Addr}
theorem ok_passes {f : Addr} {fd : FuncData} (F : Fun K "_law_passes" "_law_passes" sPasses f fd) (T : Txt K mg C) (cal_draw : Cal P w K mg base CX0 "_law_draw" 1 ["_law_script", "_law_k", "_law_many"] (spDraw K)) (cal_sign : Cal P w K mg base CX0 "_law_sign" 1 ["_law_number"] spSign)
    (cal_fits : CalM P w K mg base CX0 C "fits" 4 ["self", "sign"] (spFits C)) (cal_stays : Cal P w K mg base CX0 "_law_stays" 7 ["_law_reader", "_law_sign_here"] (spStays C)) (cal_take : CalM P w K mg base (L2.CX P w) C "take" 5 ["self", "sign"] (spTake C CN)) :
    FnOk P w K mg base CX0 8 f fd ["_law_script", "_law_k", "_law_reader", "_law_line"] (spPasses K C) := by
  refine F.ok scPasses (fun vs H Q E h => ?_) (fun cdv A outer s H vs Q E hr h => ?_)
  · obtain ⟨a, x, a5, a6, ns, k, M, R, l, rfl, _⟩ := h
    rfl
  · obtain ⟨a, x, a5, a6, ns, k, M, R, l, rfl, hS, k0, k1, hl, hdep, hRd, q⟩ := h
    refine ⟨_, (pss_cons (ps_for PassesOwn.never rfl (pi_range1 rfl T.range (pa_cons (pe_callB call_lenS (by rfl) T.len (by decide +kernel) (pa_cons (pv 3) pa_nil)) pa_nil)) (pg_name (i := 4) scPasses.nd rfl (Or.inl rfl))
      (pss_cons (ps_set (i := 5) scPasses.nd rfl (Or.inl rfl) (pcal cal_draw (hr.mono (by decide)) (pa_cons (pv 0) (pa_cons (pe_op op_add (pv 1) (pv 4)) (pa_cons pe_int pa_nil)))))
    (pss_cons (ps_set (i := 6) scPasses.nd rfl (Or.inl rfl) (pcal cal_sign (hr.mono (by decide)) (pa_cons (pe_op op_fdivN (pv 5) pe_int) pa_nil)))
    (pss_cons (ps_if (PW.pt (pw_and (pt_cmpR op_eq (pe_op op_modN (pv 5) pe_int) pe_int (nomark _)) (pw_and (pt_not (pt_val (pmeth cal_fits (hr.mono (by decide)) pass0 (pv 2) (pa_cons (pv 6) pa_nil)))) (pw_and1 (pt_not (pt_val (pcal cal_stays (hr.mono (by decide)) (pa_cons (pv 2) (pa_cons (pv 6) pa_nil)))))))))
      (pss_one (ps_ret (pe_un un_neg pe_int)))
      pss_nil)
    (pss_cons (ps_if (pt_not (pt_val (pmeth cal_fits (hr.mono (by decide)) pass0 (pv 2) (pa_cons (pe_ix ix_str (pv 3) (pv 4) (fun _ _ => rfl)) pa_nil))))
      (pss_cons (ps_if (pt_not (pt_val (pcal cal_stays (hr.mono (by decide)) (pa_cons (pv 2) (pa_cons (pe_ix ix_str (pv 3) (pv 4) (fun _ _ => rfl)) pa_nil)))))
      (pss_one (ps_ret (pe_un un_neg pe_int)))
      pss_nil)
    (pss_one (ps_ret (pv 4))))
      pss_nil)
    (pss_one (ps_expr (pmeth (E := E0) cal_take (hr.mono (by decide)) passL (pv 2) (pa_cons (pe_ix ix_str (pv 3) (pv 4) (fun _ _ => rfl)) pa_nil)))))))))
    (pss_one (ps_ret (pe_callB call_lenS (by rfl) T.len (by decide +kernel) (pa_cons (pv 3) pa_nil))))), ?_⟩
    walk_at "rd"
    refine i_lens (by omega) ?_
    walk_at "rd"
    refine ⟨l.length, rfl, by omega, by omega, ?_⟩
    refine for_range (n := l.length) (fun i σ H' => ∃ (v4 v5 v6 : Option V) (Ri : RS), σ = [some (.ref a), some (.int k), some (.ref x), some (.str (S l)), v4, v5, v6] ∧ KeepR x a5 a6 H H' ∧ RdrAt C M H' x a5 a6 Ri ∧ Ri.stk.length ≤ R.stk.length + i ∧
      goS M R (l.take i) = some Ri ∧ passS M R l = i + passS M Ri (l.drop i)) ⟨none, none, none, R, rfl, KeepR.refl _ _ _ _, hRd, Nat.le_refl _, rfl, by simp⟩ ?_ ?_
    · rintro i σ H' hi ⟨v4, v5, v6, Ri, rfl, kp, rd, hsl, hgo, hps⟩
      have e0 : (0 + (i : Int)) = (i : Int) := by omega
      rw [e0]
      obtain ⟨c, hc⟩ : ∃ c, l[i]? = some c := ⟨_, List.getElem?_eq_getElem hi⟩
      have hdr : l.drop i = c :: l.drop (i + 1) := by
        obtain ⟨hi', e⟩ := List.getElem?_eq_some_iff.mp hc
        rw [List.drop_eq_getElem_cons hi', e]
      have hat : atI l (i : Int) = some c := atI_nat hc
      have hls : l.length ≤ sizeLine := small_line (by omega)
      walk_at "rd"
      refine ⟨a, ns, k + (i : Int), 1900, rfl, (hide_same _ _).seq (Same.seq kp hS), by omega, by omega, by decide, fun r r0 r1 => ?_⟩
      walk_at "rd"
      refine ⟨_, rfl, fun oc => ?_⟩
      walk_at "rt"
      with_reducible refine i_seq ?_
      with_reducible refine i_ifs ?_
      refine byQ (fun Qc => ∀ H2, KeepR x a5 a6 H H2 → RdrAt C M H2 x a5 a6 Ri → Qc false H2) ?_ ?_
      · intro Qc rest
        walk_at "rd"
        by_cases h7 : r.fmod 20 = 7
        · refine iT (decide_eq_true (by rw [h7])) ?_
          obtain ⟨dx, b1, b2, b3, b4, inn, hx⟩ := rd.hx
          walk_at "rd"
          refine ⟨x, _, _, rfl, hx, rf_m4, ?_⟩
          walk_at "rd"
          refine ⟨x, a5, a6, M, Ri, oc, rfl, rd, fun H2 kp2 rd2 => ?_⟩
          walk_at "rd"
          cases hf : fitsS M Ri oc with
          | true =>
            refine iF rfl ?_
            exact rest H2 (kp.trans kp2) rd2
          | false =>
            refine iT rfl ?_
            walk_at "rd"
            refine ⟨x, a5, a6, M, Ri, oc, rfl, by omega, rd2, hf, fun H3 kp3 rd3 => ?_⟩
            refine i_k ?_
            exact rest H3 ((kp.trans kp2).trans kp3) rd3
        · refine iF (decide_eq_false (fun e => h7 (V.int.inj e))) ?_
          exact rest H' kp rd
      · intro H2 kp2 rd2
        refine iteF ?_
        obtain ⟨dx, b1, b2, b3, b4, inn, hx⟩ := rd2.hx
        walk_at "rd"
        refine ⟨x, _, _, rfl, hx, rf_m4, ?_⟩
        walk_at "rd"
        refine i_ixs hls hat ?_
        walk_at "rd"
        refine ⟨x, a5, a6, M, Ri, c, rfl, rd2, fun H3 kp3 rd3 => ?_⟩
        walk_at "rd"
        have kp13 := kp2.trans kp3
        cases hf : fitsS M Ri c with
        | false =>
          refine iT rfl ?_
          walk_at "rd"
          refine i_ixs hls hat ?_
          walk_at "rd"
          refine ⟨x, a5, a6, M, Ri, c, rfl, by omega, rd3, hf, fun H4 kp4 rd4 => ?_⟩
          refine i_k ?_
          refine iteF ?_
          walk_at "rd"
          have e : passS M R l = i := by
            rw [hps, hdr]
            unfold passS
            rw [hf, if_neg (by simp)]
            exact Nat.add_zero i
          have hq := q H4 Ri (kp13.trans kp4) rd4 (fun z => by omega)
          rw [e] at hq
          exact hq
        | true =>
          refine iF rfl ?_
          obtain ⟨dx, b1, b2, b3, b4, inn, hx⟩ := rd3.hx
          walk_at "rd"
          refine ⟨x, _, _, rfl, hx, rf_m5, ?_⟩
          walk_at "rd"
          refine i_ixs hls hat ?_
          walk_at "rd"
          refine ⟨x, a5, a6, M, Ri, c, rfl, by omega, rd3, fun _ H4 kp4 rd4 => ?_, fun z => ?_⟩
          · walk_at "rd"
            have := stk_take M Ri c
            refine ⟨_, _, _, takeS M Ri c, rfl, kp13.trans kp4, rd4, by omega, ?_, ?_⟩
            · rw [take_snoc hc]
              exact goS_snoc hgo hf
            · rw [hps, hdr]
              show i + (if fitsS M Ri c = true then passS M (takeS M Ri c) (l.drop (i + 1)) + 1 else 0) = _
              rw [if_pos hf]
              omega
          · rw [hf] at z; cases z
    · rintro σ H' ⟨v4, v5, v6, Ri, rfl, kp, rd, hsl, hgo, hps⟩
      walk_at "rd"
      refine i_lens (by omega) ?_
      rw [List.take_length] at hgo
      rw [List.drop_length] at hps
      have e : passS M R l = l.length := hps
      have hq := q H' Ri kp rd (fun _ => hgo)
      rw [e] at hq
      exact hq
end
/-! ## 40. The same beginning, the end -/
def spSame : Sp := fun vs H Q _ => ∃ l m : Tx, vs = [.str (S l), .str (S m)] ∧ l.length ≤ 50000 ∧ m.length ≤ 50000 ∧ Q (.int (same l m : Int)) H
abbrev NSame : List Str := ["_law_one", "_law_other", "_law_k"]
theorem scSame : FnScope NSame ["_law_one", "_law_other"] (defScope sSame) := ⟨rfl, rfl, rfl, by decide +kernel, rfl, by decide +kernel, by decide +kernel⟩
def spAtEnd (K : PySem.W.Frag) (C : Addr) : Sp := fun vs H Q _ => ∃ (a x a5 a6 : Addr) (ns : List Int) (M : RM) (R : RS), vs = [.ref x, .ref a] ∧ SqL K (own3 x a5 a6 H) a (ns.map V.int) ∧ R.whole = true ∧ RdrAt C M H x a5 a6 R ∧ ∀ H' : Hp, KeepR x a5 a6 H H' → Q (.bl true) H'
abbrev NAtEnd : List Str := ["_law_reader", "_law_script", "_law_sign_here"]
theorem scAtEnd : FnScope NAtEnd ["_law_reader", "_law_script"] (defScope sAtEnd) := ⟨rfl, rfl, rfl, by decide +kernel, rfl, by decide +kernel, by decide +kernel⟩
theorem drop_cons {α : Type} {l : List α} {i : Nat} {c : α} (h : l[i]? = some c) : l.drop i = c :: l.drop (i + 1) := by
  obtain ⟨hi', e⟩ := List.getElem?_eq_some_iff.mp h
  rw [List.drop_eq_getElem_cons hi', e]
theorem same_nil : ∀ l : Tx, same l [] = 0
  | [] => rfl
  | _ :: _ => rfl
theorem whole_fits {M : RM} {R : RS} (h : R.whole = true) (c : Nat) : fitsS M R c = false := by
  unfold fitsS
  rw [h, if_pos rfl]
theorem whole_left {M : RM} {R : RS} (h : R.whole = true) : leftS M R = some 0 := by
  unfold leftS
  rw [h, if_pos rfl]
section
variable {P : Program} {w : World} {K : PySem.W.Frag} {mg : Str → Option Value} {base : Heap} {C CN : Addr}
theorem ok_same {f : Addr} {fd : FuncData} (F : Fun K "_law_same_beginning" "_law_same_beginning" sSame f fd) (T : Txt K mg C) : FnOk P w K mg base CX0 1 f fd ["_law_one", "_law_other"] spSame := by
  refine F.ok scSame (fun vs H Q E h => ?_) (fun cdv A outer s H vs Q E hr h => ?_)
  · obtain ⟨l, m, rfl, _⟩ := h
    rfl
  · obtain ⟨l, m, rfl, hl, hm, q⟩ := h
    refine ⟨_, (pss_cons (ps_set (i := 2) scSame.nd rfl (Or.inl rfl) pe_int)
    (pss_cons (ps_while PassesOwn.never (PW.pt (pw_and (pt_cmpR op_lt (pv 2) (pe_callB (call_minI rfl) (by rfl) T.min (by decide +kernel) (pa_cons (pe_callB call_lenS (by rfl) T.len (by decide +kernel) (pa_cons (pv 0) pa_nil)) (pa_cons (pe_callB call_lenS (by rfl) T.len (by decide +kernel) (pa_cons (pv 1) pa_nil)) pa_nil))) (nomark _)) (pw_and1 (pt_cmpR op_eq (pe_ix ix_str (pv 0) (pv 2) (fun _ _ => rfl)) (pe_ix ix_str (pv 1) (pv 2) (fun _ _ => rfl)) (nomark _)))))
      (pss_one (ps_set (i := 2) scSame.nd rfl (Or.inl rfl) (pe_op op_add (pv 2) pe_int))))
    (pss_one (ps_ret (pv 2))))), ?_⟩
    walk_at "rd"
    refine ⟨fun k σ H' => ∃ j : Nat, k = l.length - j ∧ H' = H ∧ σ = [some (.str (S l)), some (.str (S m)), some (.int (j : Int))] ∧ j ≤ l.length ∧ j ≤ m.length ∧ same l m = j + same (l.drop j) (m.drop j), ⟨_, 0, rfl, rfl, rfl, Nat.zero_le _, Nat.zero_le _, by simp⟩, ?_⟩
    rintro k σ H' ⟨j, rfl, rfl, rfl, hjl, hjm, hs⟩
    walk_at "rd"
    refine i_lens (by omega) ?_
    walk_at "rd"
    refine i_lens (by omega) ?_
    walk_at "rd"
    have fin : ∀ {v : Nat}, same l m = v → Q (.int (v : Int)) H' := fun e => by rw [← e]; exact q
    have hmin : decide ((j : Int) < (if ((m.length : Nat) : Int) < ((l.length : Nat) : Int) then ((m.length : Nat) : Int) else ((l.length : Nat) : Int))) = decide (j < l.length ∧ j < m.length) := by
      rw [decide_eq_decide]
      split <;> omega
    rw [hmin]
    by_cases hj : j < l.length ∧ j < m.length
    · refine iT (decide_eq_true hj) ?_
      obtain ⟨a, ha⟩ : ∃ a, l[j]? = some a := ⟨_, List.getElem?_eq_getElem hj.1⟩
      obtain ⟨b, hb⟩ : ∃ b, m[j]? = some b := ⟨_, List.getElem?_eq_getElem hj.2⟩
      rw [drop_cons ha, drop_cons hb] at hs
      walk_at "rd"
      refine i_ixs (small_line (by omega)) (atI_nat ha) ?_
      walk_at "rd"
      refine i_ixs (small_line (by omega)) (atI_nat hb) ?_
      walk_at "rd"
      rw [S_eq]
      by_cases e : a = b
      · subst e
        refine iT (decide_eq_true rfl) ?_
        refine ⟨fun σ H1 => H1 = H' ∧ σ = [some (.str (S l)), some (.str (S m)), some (.int ((j + 1 : Nat) : Int))], fun σ' H1 ⟨e1, e2⟩ => ⟨l.length - (j + 1), by omega, j + 1, rfl, e1, e2, hj.1, hj.2, ?_⟩, ?_⟩
        · rw [hs]
          show j + (if a = a then same (l.drop (j + 1)) (m.drop (j + 1)) + 1 else 0) = _
          rw [if_pos rfl]
          omega
        · walk_at "rd"
          exact ⟨rfl, rfl⟩
      · refine iF (decide_eq_false (by simpa using e)) ?_
        walk_at "rd"
        refine fin ?_
        rw [hs]
        show j + (if a = b then same (l.drop (j + 1)) (m.drop (j + 1)) + 1 else 0) = _
        rw [if_neg e]
        rfl
    · refine iF (decide_eq_false hj) ?_
      walk_at "rd"
      refine fin ?_
      rw [hs]
      by_cases h1 : j < l.length
      · rw [show m.drop j = [] from List.drop_eq_nil_of_le (by omega), same_nil]
        rfl
      · rw [show l.drop j = [] from List.drop_eq_nil_of_le (by omega)]
        rfl
theorem ok_atend {f : Addr} {fd : FuncData} (F : Fun K "_law_at_end" "_law_at_end" sAtEnd f fd) (T : Txt K mg C) (cal_draw : Cal P w K mg base CX0 "_law_draw" 1 ["_law_script", "_law_k", "_law_many"] (spDraw K)) (cal_sign : Cal P w K mg base CX0 "_law_sign" 1 ["_law_number"] spSign)
    (cal_left : CalM P w K mg base CX0 C "left" 4 ["self"] (spLeft C)) (cal_pile : CalM P w K mg base CX0 C "pile" 1 ["self"] (spPile C)) (cal_hint : CalM P w K mg base CX0 C "hint" 5 ["self"] (spHint C))
    (cal_fits : CalM P w K mg base CX0 C "fits" 4 ["self", "sign"] (spFits C)) (cal_refused : Cal P w K mg base CX0 "_law_refused" 6 ["_law_reader", "_law_sign_here"] (spRefused C)) :
    FnOk P w K mg base CX0 7 f fd ["_law_reader", "_law_script"] (spAtEnd K C) := by
  refine F.ok scAtEnd (fun vs H Q E h => ?_) (fun cdv A outer s H vs Q E hr h => ?_)
  · obtain ⟨a, x, a5, a6, ns, M, R, rfl, _⟩ := h
    rfl
  · obtain ⟨a, x, a5, a6, ns, M, R, rfl, hS, hw, hRd, q⟩ := h
    refine ⟨_, (pss_cons (ps_if (PW.pt (pw_or (pt_cmpR op_ne (pmeth0 cal_left (hr.mono (by decide)) pass0 (pv 0)) pe_int (nomark _)) (pw_or (pt_cmpR (op_neD hr.units) (pmeth0 cal_pile (hr.mono (by decide)) pass0 (pv 0)) (pe_lst pa_nil) (nomark _)) (pw_or1 (pt_cmpR op_ne (pmeth0 cal_hint (hr.mono (by decide)) pass0 (pv 0)) (pes sl_lit4) (nomark _))))))
      (pss_one (ps_ret pe_bl))
      pss_nil)
    (pss_cons (ps_for PassesOwn.never rfl (pi_list (pe_lst (pa_cons (pes sl_lit1) (pa_cons (pes sl_lit2) (pa_cons (pes sl_lit3) (pa_cons (pes sl_lit5) (pa_cons (pcal cal_sign (hr.mono (by decide)) (pa_cons (pcal cal_draw (hr.mono (by decide)) (pa_cons (pv 1) (pa_cons pe_int (pa_cons pe_int pa_nil)))) pa_nil)) pa_nil))))))) (pg_name (i := 2) scAtEnd.nd rfl (Or.inl rfl))
      (pss_one (ps_if (PW.pt (pw_or (pt_val (pmeth cal_fits (hr.mono (by decide)) pass0 (pv 0) (pa_cons (pv 2) pa_nil))) (pw_or1 (pt_not (pt_val (pcal cal_refused (hr.mono (by decide)) (pa_cons (pv 0) (pa_cons (pv 2) pa_nil))))))))
      (pss_one (ps_ret pe_bl))
      pss_nil)))
    (pss_one (ps_ret (pe_cmpR op_eq (pmeth0 cal_left (hr.mono (by decide)) pass0 (pv 0)) pe_int (nomark _)))))), ?_⟩
    have hstk := (hRd.inv.wh hw).1
    have hdep : R.stk.length ≤ 100000 := by rw [hstk]; exact Nat.zero_le _
    obtain ⟨dx, b1, b2, b3, b4, inn, hx⟩ := hRd.hx
    walk_at "rd"
    refine ⟨x, _, _, rfl, hx, rf_m6, ?_⟩
    walk_at "rd"
    refine ⟨x, a5, a6, M, R, rfl, hRd, fun H1 kp1 rd1 => ?_⟩
    rw [whole_left hw]
    walk_at "rd"
    refine iF rfl ?_
    obtain ⟨dx, b1, b2, b3, b4, inn, hx⟩ := rd1.hx
    walk_at "rd"
    refine ⟨x, _, _, rfl, hx, rf_m8, ?_⟩
    walk_at "rd"
    refine ⟨x, a5, a6, M, R, rfl, rd1, fun p H2 s2 hp hp2 => ?_⟩
    rw [hstk] at hp2
    have rd2 := rd1.mono s2
    walk_at "rd"
    refine ⟨by show 0 ≤ sizeLine; exact Nat.zero_le _, fun p3 hp3 => ?_⟩
    have s3 : Same H2 (upd H2 p3 (.lst [])) := same_new hp3 _
    refine ⟨_, _, dp_nums (ns := []) (s3 _ _ hp2), dp_nums (ns := []) upd_same, shaped_nums _, shaped_nums _, ?_⟩
    rw [eqv_nums]
    refine i_k ?_
    refine iF rfl ?_
    have rd3 := rd2.mono s3
    have kp3 : KeepR x a5 a6 H (upd H2 p3 (.lst [])) := (kp1.trans (KeepR.of s2)).trans (KeepR.of s3)
    generalize (upd H2 p3 (.lst [])) = H3 at rd3 kp3 ⊢
    obtain ⟨dx, b1, b2, b3, b4, inn, hx⟩ := rd3.hx
    walk_at "rd"
    refine ⟨x, _, _, rfl, hx, rf_m7, ?_⟩
    walk_at "rd"
    refine ⟨x, a5, a6, M, R, rfl, rd3, hw, ?_⟩
    walk_at "rd"
    rw [S_eq]
    refine iF rfl ?_
    walk_at "rd"
    refine ⟨a, ns, 9, 95, rfl, (hide_same _ _).seq (Same.seq kp3 hS), by omega, by omega, by decide, fun r r0 r1 => ?_⟩
    walk_at "rd"
    refine ⟨_, rfl, fun oc => ?_⟩
    walk_at "rd"
    refine ⟨by show 5 ≤ sizeLine; decide, fun pl hpl => ?_⟩
    have s4 : Same H3 (upd H3 pl (.lst (([[40], [41], [58], [97], [oc]] : List Tx).map fun l => V.str (S l)))) := same_new hpl _
    obtain ⟨_, _, _, _, _, _, _, d3⟩ := id rd3.data
    have hl4 : own3 x a5 a6 (upd H3 pl (.lst (([[40], [41], [58], [97], [oc]] : List Tx).map fun l => V.str (S l)))) pl = _ := d3.own_new hpl upd_same
    have rd4 := rd3.mono s4
    have kp4 := kp3.trans (KeepR.of s4)
    refine ⟨pl, rfl, ⟨_, .of (keep_get (KeepR.refl _ _ _ _) hl4)⟩, ?_⟩
    have e5 : upd H3 pl (.lst [V.str (S [40]), V.str (S [41]), V.str (S [58]), V.str (S [97]), V.str (S [oc])]) = upd H3 pl (.lst (([[40], [41], [58], [97], [oc]] : List Tx).map fun l => V.str (S l))) := rfl
    rw [e5]
    generalize (upd H3 pl (.lst (([[40], [41], [58], [97], [oc]] : List Tx).map fun l => V.str (S l)))) = H4 at hl4 rd4 kp4 ⊢
    refine for_list (K := K) (a := pl) (xs := ([[40], [41], [58], [97], [oc]] : List Tx).map fun l => V.str (S l)) (fun i σ H' => ∃ v2 : Option V, σ = [some (.ref x), some (.ref a), v2] ∧ KeepR x a5 a6 H4 H' ∧ RdrAt C M H' x a5 a6 R)
      ⟨none, rfl, KeepR.refl _ _ _ _, rd4⟩ (fun i σ H' _ ⟨_, _, kp, _⟩ => .of (keep_get kp hl4)) ?_ ?_
    · rintro i y σ H' hi ⟨v2, rfl, kp, rd⟩
      obtain ⟨l, hl, rfl⟩ := get_map hi
      obtain ⟨c, rfl⟩ : ∃ c, l = [c] := by
        have hm := List.mem_of_getElem? hl
        simp only [List.mem_cons, List.not_mem_nil, or_false] at hm
        rcases hm with rfl | rfl | rfl | rfl | rfl <;> exact ⟨_, rfl⟩
      obtain ⟨dx, b1, b2, b3, b4, inn, hx⟩ := rd.hx
      walk_at "rd"
      refine ⟨x, _, _, rfl, hx, rf_m4, ?_⟩
      walk_at "rd"
      refine ⟨x, a5, a6, M, R, c, rfl, rd, fun H6 kp6 rd6 => ?_⟩
      rw [whole_fits hw]
      walk_at "rd"
      refine ⟨x, a5, a6, M, R, c, rfl, hdep, rd6, whole_fits hw c, fun H7 kp7 rd7 => ?_⟩
      refine i_k (iteF ?_)
      walk_at "rd"
      exact ⟨_, rfl, (kp.trans kp6).trans kp7, rd7⟩
    · rintro σ H' ⟨v2, rfl, kp, rd⟩
      obtain ⟨dx, b1, b2, b3, b4, inn, hx⟩ := rd.hx
      walk_at "rd"
      refine ⟨x, _, _, rfl, hx, rf_m6, ?_⟩
      walk_at "rd"
      refine ⟨x, a5, a6, M, R, rfl, rd, fun H8 kp8 rd8 => ?_⟩
      rw [whole_left hw]
      walk_at "rd"
      exact q H8 ((kp4.trans kp).trans kp8)
end
/-! ## 41. Left bears -/
/-- the class, to be made -/
structure CalN (P : Program) (w : World) (K : PySem.W.Frag) (mg : Str → Option Value) (base : Heap) (C : Addr) : Prop where
  ex : ∃ (f : Addr) (fd : FuncData), Mk K C f ∧ FnOk P w K mg base CX0 5 f fd ["self", "machine"] (spInit C) ∧ Binds K fd ["self", "machine"] []
  gl : mg "Reader" = some (.ref C)
theorem pmake {X : Cx} {C : Addr} {e : Expr} {es : List Expr} {t : TA} {p pos : Pos} (c : CalN X.prog X.w X.K X.mg X.base C) (hr : Room 6 X.A) (ha : PA X (e :: es) t) (hg : Gl X "Reader" := by rfl)
    (he : starEach (e :: es) X.env = (false, eval e X.env) :: starEach es X.env := by rfl) (hpl : (backTo pos (starEach es X.env)).any (·.1) = false := by rfl) :
    PE X (.Call (.Name "Reader" p) (e :: es) [] pos) (tMake C (spInit C) [] E0 t) := by
  obtain ⟨f, fd, M, F, hb⟩ := c.ex
  exact pe_make M F hr hg c.gl hb .nil pass0 ha (by decide) he hpl
theorem i_make {C : Addr} {sp : Sp} {E : XK} {t : TA} {σ : L2.St} {H : Hp} {Q : VK} (h : t σ H fun vs H1 => ∀ x dx, H1 x = none → H1 dx = none → dx ≠ x → sp (.ref x :: (vs ++ [])) (upd (upd H1 dx (.own x)) x (.ins C dx [])) (fun v H2 => v = .non ∧ Q (.ref x) H2) E) : tMake C sp [] E t σ H Q := h
/-- a reader made: what is read of it -/
theorem made {C x dx m : Addr} {M : Mac} {H : Hp} {G : Hp → Prop} {E : XK} (hx : H x = none) (hd : H dx = none) (hn : dx ≠ x) (hm : MacAt H m M) (hM : M.Ok)
    (q : ∀ (H' : Hp) (a5 a6 : Addr) (pr : Cs), Same H H' → H a5 = none → H a6 = none → RdrAt C (mkRM M pr) (fresh H H') x a5 a6 R0 → G H') : spInit C [.ref x, .ref m] (upd (upd H dx (.own x)) x (.ins C dx [])) (fun v H2 => v = .non ∧ G H2) E := by
  refine ⟨x, m, dx, H, M, rfl, smut (same_new hd _) hx _, hx, upd_same, hm, hM, fun H' a5 a6 pr sm rd => ⟨rfl, ?_⟩⟩
  obtain ⟨_, _, _, _, _, _, _, d⟩ := id rd.data
  exact q H' a5 a6 pr sm (fresh_inv d.states).1 (fresh_inv d.costs).1 rd
theorem same_own {H H' : Hp} {x a5 a6 : Addr} (s : Same H H') (hx : H x = none) (h5 : H a5 = none) (h6 : H a6 = none) : Same H (own3 x a5 a6 H') := fun b o e => by
  show hide [x, a5, a6] H' b = some o
  rw [hide_get]
  · exact s _ _ e
  · intro hm
    simp only [List.mem_cons, List.not_mem_nil, or_false] at hm
    rcases hm with rfl | rfl | rfl
    · rw [hx] at e; cases e
    · rw [h5] at e; cases e
    · rw [h6] at e; cases e
def spBears : Sp := fun vs H Q _ => ∃ (m : Addr) (M : Mac) (l : Tx), vs = [.ref m, .str (S l)] ∧ MacAt H m M ∧ M.Ok ∧ l.length ≤ 50000 ∧ (∀ pr, PricesOk M pr → ∃ R', Runs (mkRM M pr) R0 l 0 R') ∧ ∀ H' : Hp, Same H H' → Q (.bl true) H'
abbrev NBears : List Str := ["_law_machine_here", "_law_line", "_law_reader", "_law_j", "_law_left"]
theorem scBears : FnScope NBears ["_law_machine_here", "_law_line"] (defScope sBears) := ⟨rfl, rfl, rfl, by decide +kernel, rfl, by decide +kernel, by decide +kernel⟩
section
variable {P : Program} {w : World} {K : PySem.W.Frag} {mg : Str → Option Value} {base : Heap} {C CN : Addr}
theorem ok_bears {f : Addr} {fd : FuncData} (F : Fun K "_law_left_bears" "_law_left_bears" sBears f fd) (T : Txt K mg C) (cal_Reader : CalN P w K mg base C)
    (cal_left : CalM P w K mg base CX0 C "left" 4 ["self"] (spLeft C)) (cal_take : CalM P w K mg base (L2.CX P w) C "take" 5 ["self", "sign"] (spTake C CN)) : FnOk P w K mg base CX0 7 f fd ["_law_machine_here", "_law_line"] spBears := by
  refine F.ok scBears (fun vs H Q E h => ?_) (fun cdv A outer s H vs Q E hr h => ?_)
  · obtain ⟨m, M, l, rfl, _⟩ := h
    rfl
  · obtain ⟨m, M, l, rfl, hm, hM, hl, hruns, q⟩ := h
    refine ⟨_, (pss_cons (ps_set (i := 2) scBears.nd rfl (Or.inl rfl) (pmake cal_Reader (hr.mono (by decide)) (pa_cons (pv 0) pa_nil)))
    (pss_cons (ps_for PassesOwn.never rfl (pi_range1 rfl T.range (pa_cons (pe_callB call_lenS (by rfl) T.len (by decide +kernel) (pa_cons (pv 1) pa_nil)) pa_nil)) (pg_name (i := 3) scBears.nd rfl (Or.inl rfl))
      (pss_cons (ps_set (i := 4) scBears.nd rfl (Or.inl rfl) (pmeth0 cal_left (hr.mono (by decide)) pass0 (pv 2)))
    (pss_cons (ps_if (PW.pt (pw_or (pt_cmpR op_isNN (pv 4) pe_non (nomark _)) (pw_or1 (pt_cmpR op_gt (pv 4) (pe_op op_sub (pe_callB call_lenS (by rfl) T.len (by decide +kernel) (pa_cons (pv 1) pa_nil)) (pv 3)) (nomark _)))))
      (pss_one (ps_ret pe_bl))
      pss_nil)
    (pss_one (ps_expr (pmeth (E := E0) cal_take (hr.mono (by decide)) passL (pv 2) (pa_cons (pe_ix ix_str (pv 1) (pv 3) (fun _ _ => rfl)) pa_nil)))))))
    (pss_one (ps_ret pe_bl)))), ?_⟩
    walk_at "rd"
    refine i_make ?_
    walk_at "rd"
    intro x dx hx hd hn
    refine made hx hd hn hm hM fun H1 a5 a6 pr s1 h5 h6 rdf => ?_
    obtain ⟨R', hrun⟩ := hruns pr rdf.prs
    have rd1 := rdf.mono (fresh_same H H1)
    walk_at "rd"
    refine i_lens (by omega) ?_
    walk_at "rd"
    refine ⟨l.length, rfl, by omega, by omega, ?_⟩
    refine for_range (n := l.length) (fun i σ H' => ∃ (v3 v4 : Option V) (Ri : RS), σ = [some (.ref m), some (.str (S l)), some (.ref x), v3, v4] ∧ Same H H' ∧ RdrAt C (mkRM M pr) H' x a5 a6 Ri ∧ Ri.stk.length ≤ i ∧ Runs (mkRM M pr) Ri (l.drop i) 0 R')
      ⟨none, none, R0, rfl, s1, rd1, Nat.le_refl _, hrun⟩ ?_ ?_
    · rintro i σ H' hi ⟨v3, v4, Ri, rfl, sm, rd, hsl, hrn⟩
      have e0 : (0 + (i : Int)) = (i : Int) := by omega
      rw [e0]
      obtain ⟨c, hc⟩ : ∃ c, l[i]? = some c := ⟨_, List.getElem?_eq_getElem hi⟩
      rw [drop_cons hc] at hrn
      obtain ⟨hf, ⟨u, hu, hul⟩, hrn'⟩ := hrn
      rw [List.length_drop] at hul
      have hat : atI l (i : Int) = some c := atI_nat hc
      obtain ⟨dx1, b1, b2, b3, b4, inn, hx1⟩ := rd.hx
      walk_at "rd"
      refine ⟨x, _, _, rfl, hx1, rf_m6, ?_⟩
      walk_at "rd"
      refine ⟨x, a5, a6, _, Ri, rfl, rd, fun H2 kp2 rd2 => ?_⟩
      rw [hu]
      walk_at "rd"
      rw [int_non]
      refine iteF ?_
      walk_at "rd"
      refine i_lens (by omega) ?_
      walk_at "rd"
      refine iF (decide_eq_false (by omega)) ?_
      obtain ⟨dx2, c1, c2, c3, c4, inn2, hx2⟩ := rd2.hx
      walk_at "rd"
      refine ⟨x, _, _, rfl, hx2, rf_m5, ?_⟩
      walk_at "rd"
      refine i_ixs (small_line (by omega)) hat ?_
      walk_at "rd"
      refine ⟨x, a5, a6, _, Ri, c, rfl, by omega, rd2, fun _ H3 kp3 rd3 => ?_, fun z => ?_⟩
      · walk_at "rd"
        have := stk_take (mkRM M pr) Ri c
        exact ⟨_, _, takeS (mkRM M pr) Ri c, rfl, ((same_own sm hx h5 h6).trans (kp2.trans kp3)).trans (hide_same _ _), rd3, by omega, hrn'⟩
      · rw [hf] at z; cases z
    · rintro σ H' ⟨v3, v4, Ri, rfl, sm, rd, hsl, hrn⟩
      walk_at "rd"
      exact q H' sm
end
/-! ## 42. For the law -/
/-- a dict of the starts -/
abbrev kvOf (ss : List (Tx × Nat)) : List (L2.Key × V) := ss.map fun p => (Sum.inr (S p.1), V.int (p.2 : Int))
theorem startOf_cons (p : Tx × Nat) (r : List (Tx × Nat)) (l : Tx) : startOf (p :: r) l = if p.1 = l then some p.2 else startOf r l := by
  unfold startOf
  rw [List.find?_cons]
  by_cases h : p.1 = l
  · simp [h]
  · simp [h]
theorem startOf_none : ∀ {ss : List (Tx × Nat)} {l : Tx}, l ∉ ss.map (·.1) → startOf ss l = none
  | [], _, _ => rfl
  | p :: r, l, h => by
    rw [startOf_cons, if_neg (fun e => h (by rw [List.map_cons, e]; exact List.mem_cons_self)), startOf_none (fun m => h (by rw [List.map_cons]; exact List.mem_cons_of_mem _ m))]
theorem merge_val : ∀ (ss : List (Tx × Nat)) (acc : List (L2.Key × V)) (l : Tx), (ss.map (·.1)).Nodup → valV (mergeK acc (kvOf ss)) (Sum.inr (S l)) = ((startOf ss l).map fun (s : Nat) => V.int (s : Int)).or (valV acc (Sum.inr (S l)))
  | [], acc, l, _ => rfl
  | p :: r, acc, l, hn => by
    rw [List.map_cons, List.nodup_cons] at hn
    show valV (mergeK (putK acc (Sum.inr (S p.1)) (V.int (p.2 : Int))) (kvOf r)) (Sum.inr (S l)) = _
    rw [merge_val r _ l hn.2, valV_put, startOf_cons]
    by_cases h : p.1 = l
    · subst h
      rw [startOf_none hn.1, if_pos rfl, if_pos rfl]
      rfl
    · rw [if_neg h, if_neg (fun e => h (S_inj (Sum.inr.inj e)).symm)]
theorem dict_at {H : Hp} {p : Addr} {ss : List (Tx × Nat)} (hn : (ss.map (·.1)).Nodup) (h : H p = some (.dK (mergeK [] (kvOf ss)))) : DictAt H p ss := by
  refine ⟨_, h, fun l => ?_⟩
  rw [merge_val ss [] l hn]
  cases startOf ss l <;> rfl
/-- a machine as data -/
abbrev dPair (p : Tx × Nat) : PyData := .tuple [.str (S p.1), .int (p.2 : Int)]
abbrev dMac (M : Mac) : PyData := .tuple [.list (M.starts.map dPair), .list (M.steps.map dNums), dNums M.good]
theorem lay_pairs : ∀ ss : List (Tx × Nat), (∀ p ∈ ss, ∀ c ∈ p.1, c < 1114112) → PyData.canLayAll0 (ss.map dPair) = true
  | [], _ => rfl
  | p :: r, h => by
    simp only [List.map_cons, PyData.canLayAll0, PyData.canLay0, Bool.and_true, Bool.and_eq_true]
    refine ⟨?_, lay_pairs r fun q hq => h q (List.mem_cons_of_mem _ hq)⟩
    have := h p List.mem_cons_self
    unfold PyData.strOk
    simp only [S]
    first
      | (rw [List.all_eq_true]; intro c hc; simpa using this c (by simpa using hc))
      | (rw [Array.all_eq_true]; intro i hi; simpa using this _ (List.getElem_mem (by simpa using hi)))
theorem deep_pairs : ∀ ss : List (Tx × Nat), PyData.depthAll (ss.map dPair) ≤ 1
  | [] => by simp only [List.map_nil, PyData.depthAll]; exact Nat.zero_le _
  | p :: r => by
    have := deep_pairs r
    simp only [List.map_cons, PyData.depthAll, PyData.depth]
    omega
theorem lay_rows : ∀ R : List (List Nat), PyData.canLayAll0 (R.map dNums) = true
  | [] => rfl
  | p :: r => by
    simp only [List.map_cons, PyData.canLayAll0, PyData.canLay0, lay_nums, Bool.true_and]
    exact lay_rows r
theorem deep_rows : ∀ R : List (List Nat), PyData.depthAll (R.map dNums) ≤ 1
  | [] => by simp only [List.map_nil, PyData.depthAll]; exact Nat.zero_le _
  | p :: r => by
    have := deep_rows r
    simp only [List.map_cons, PyData.depthAll, PyData.depth, deep_nums]
    omega
theorem mac_chars {M : Mac} (h : M.Ok) : ∀ p ∈ M.starts, ∀ c ∈ p.1, c < 1114112 := fun p hp c hc => by
  obtain ⟨g, hg, e⟩ := h.labs p hp
  rcases e with e | e
  · rw [e] at hc
    have := hg.2 c hc
    unfold isLow at this
    omega
  · rw [e] at hc
    rcases List.mem_append.mp hc with hc | hc
    · have := hg.2 c hc
      unfold isLow at this
      omega
    · rw [List.mem_singleton] at hc
      omega
theorem shaped_mac {M : Mac} (h : M.Ok) : SeqAt.shaped (dMac M) = true := by
  have h1 := deep_pairs M.starts
  have h2 := deep_rows M.steps
  unfold SeqAt.shaped
  rw [Bool.and_eq_true]
  constructor
  · simp only [PyData.canLay0, PyData.canLayAll0, lay_pairs _ (mac_chars h), lay_rows, lay_nums]
    rfl
  · rw [decide_eq_true_eq]
    simp only [PyData.depth, PyData.depthAll, deep_nums]
    omega
theorem eqv_mac {M : Mac} (h : M.Ok) : PyData.eqv (dMac M) (dMac M) = true := SeqAt.eqv_refl _ (SeqAt.canLay_of_shaped (shaped_mac h))
theorem dps_pairs {K : PySem.W.Frag} {H : Hp} : ∀ {ts : List Addr} {ss : List (Tx × Nat)}, Paired (fun t (p : Tx × Nat) => H t = some (.tup [.str (S p.1), .int (p.2 : Int)])) ts ss → DpAll K H (ts.map V.ref) (ss.map dPair)
  | _, _, .nil => .nil
  | _, _, .cons h t => .cons (.tup (SqT.of h) (.cons (.str _) (.cons (.int _) .nil))) (dps_pairs t)
theorem dps_rows {K : PySem.W.Frag} {H : Hp} : ∀ {ts : List Addr} {R : List (List Nat)}, Paired (fun r (row : List Nat) => H r = some (.lst (nums row))) ts R → DpAll K H (ts.map V.ref) (R.map dNums)
  | _, _, .nil => .nil
  | _, _, .cons h t => .cons (dp_nums h) (dps_rows t)
theorem dp_mac {K : PySem.W.Frag} {H : Hp} {m : Addr} {M : Mac} (h : MacAt H m M) : Dp K H (.ref m) (dMac M) := by
  obtain ⟨a1, a2, a3, h0, ⟨ts, h1, p1⟩, ⟨rs, h2, p2⟩, h3⟩ := h
  exact .tup (.of h0) (.cons (.lst (.of h1) (dps_pairs p1)) (.cons (.lst (.of h2) (dps_rows p2)) (.cons (dp_nums h3) .nil)))
theorem NewMac.mono {H H' H'' : Hp} {m : Addr} {M : Mac} (s : Same H' H'') (h : NewMac H H' m M) : NewMac H H'' m M := by
  obtain ⟨a1, a2, a3, rs, h0, n1, n2, n3, nr, h1, h2, h3, h4⟩ := h
  exact ⟨a1, a2, a3, rs, s _ _ h0, n1, n2, n3, nr, h1.mono s, s _ _ h2, paired_mono h3 fun _ _ e => s _ _ e, s _ _ h4⟩
/-- all of B are lists -/
def Lists (B : List Addr) (H : Hp) : Prop := ∀ b ∈ B, ∃ xs, H b = some (.lst xs)
theorem Lists.mono {B : List Addr} {H H' : Hp} (s : Same H H') (h : Lists B H) : Lists B H' := fun b hb => by
  obtain ⟨xs, e⟩ := h b hb
  exact ⟨xs, s _ _ e⟩
theorem hide_new' {B : List Addr} {H H' : Hp} {p : Addr} {o : HO} (h : Lists B H) (hp : H p = none) (e : H' p = some o) : hide B H' p = some o := by
  rw [hide_get]
  · exact e
  · intro hm
    obtain ⟨xs, q⟩ := h p hm
    rw [q] at hp; cases hp
theorem hide_tup {B : List Addr} {H : Hp} {p : Addr} {xs : List V} (h : Lists B H) (e : H p = some (.tup xs)) : hide B H p = some (.tup xs) := by
  rw [hide_get]
  · exact e
  · intro hm
    obtain ⟨ys, q⟩ := h p hm
    rw [q] at e; cases e
mutual
theorem TreeAt.hide {B : List Addr} {H : Hp} (h : Lists B H) : ∀ {r : Addr} {t : K39.T}, TreeAt H r t → TreeAt (hide B H) r t
  | r, .node g w ks, q => by
    obtain ⟨k, as, h1, h2, h3⟩ := q
    exact ⟨k, as, hide_tup h h1, hide_tup h h2, TreesAt.hide h h3⟩
theorem TreesAt.hide {B : List Addr} {H : Hp} (h : Lists B H) : ∀ {as : List Addr} {ts : List K39.T}, TreesAt H as ts → TreesAt (hide B H) as ts
  | [], [], _ => trivial
  | a :: as, t :: ts, q => ⟨TreeAt.hide h q.1, TreesAt.hide h q.2⟩
  | [], _ :: _, q => q.elim
  | _ :: _, [], q => q.elim
end
theorem same_hide {B : List Addr} {H0 H : Hp} (s : Same H0 H) (h : ∀ b ∈ B, H0 b = none) : Same H0 (hide B H) := fun b o e => by
  rw [hide_get]
  · exact s _ _ e
  · intro hm
    rw [h b hm] at e; cases e
/-- one kid left out -/
theorem nodess_cut : ∀ (ks : List K39.T) (j : Nat), nodess (ks.take j ++ ks.drop (j + 1)) ≤ nodess ks
  | [], j => by simp
  | k :: r, 0 => by
    show nodess r ≤ k.nodes + nodess r
    omega
  | k :: r, j + 1 => by
    have := nodess_cut r j
    show k.nodes + nodess (r.take j ++ r.drop (j + 1)) ≤ k.nodes + nodess r
    omega
mutual
theorem st_good (M : Mac) (g : List Nat) : ∀ t : K39.T, t.st { M with good := g } = t.st M
  | .node tg w ks => sts_good M g ks _
theorem sts_good (M : Mac) (g : List Nat) : ∀ (ks : List K39.T) (p : Nat), sts { M with good := g } p ks = sts M p ks
  | [], p => rfl
  | t :: r, p => by
    show sts { M with good := g } (sp M.steps p (t.st { M with good := g })) r = sts M (sp M.steps p (t.st M)) r
    rw [st_good M g t]
    exact sts_good M g r _
end
theorem ok_good {M : Mac} (h : M.Ok) {g : List Nat} (hg : ∀ s ∈ g, s < M.n ∧ 1 ≤ s) : Mac.Ok { M with good := g } :=
  ⟨h.labs, h.uniq, h.st_lt, h.st_pos, h.row, h.pos, h.dead1, h.dead2, fun s hs => (hg s hs).1, fun s hs => (hg s hs).2, h.small, h.few⟩
/-- a list of numbers out of Perm -/
theorem perm_nats {g : List Nat} {ns : List Int} (h : ns.Perm (g.map fun (n : Nat) => (n : Int))) : ∃ g' : List Nat, ns = g'.map (fun (n : Nat) => (n : Int)) ∧ ∀ s, s ∈ g' ↔ s ∈ g := by
  refine ⟨ns.map Int.toNat, ?_, fun s => ?_⟩
  · rw [List.map_map]
    have : ∀ z ∈ ns, ((fun (n : Nat) => (n : Int)) ∘ Int.toNat) z = z := fun z hz => by
      obtain ⟨n, _, e⟩ := List.mem_map.mp (h.mem_iff.mp hz)
      subst e
      rfl
    rw [List.map_congr_left this]
    simp
  · constructor
    · intro hs
      obtain ⟨z, hz, rfl⟩ := List.mem_map.mp hs
      obtain ⟨n, hn, e⟩ := List.mem_map.mp (h.mem_iff.mp hz)
      subst e
      exact hn
    · intro hs
      exact List.mem_map.mpr ⟨(s : Int), h.mem_iff.mpr (List.mem_map.mpr ⟨s, hs, rfl⟩), rfl⟩
theorem nums_ints (g : List Nat) : (g.map fun (n : Nat) => (n : Int)).map V.int = nums g := by
  rw [List.map_map]
  rfl
theorem byS {T : Ends → L2.St → Hp → Prop} {D : Ends} {σ : L2.St} {H : Hp} (G : (L2.St → Hp → Prop) → Prop) (key : ∀ N, G N → T { D with nx := N } σ H) (rest : G D.nx) : T D σ H := key D.nx rest
theorem NewMac.base {H H1 H' : Hp} {m : Addr} {M : Mac} (s : Same H H1) (h : NewMac H1 H' m M) : NewMac H H' m M := by
  obtain ⟨a1, a2, a3, rs, h0, n1, n2, n3, nr, h1, h2, h3, h4⟩ := h
  exact ⟨a1, a2, a3, rs, h0, same_none s n1, same_none s n2, same_none s n3, fun r hr => same_none s (nr r hr), h1, h2, h3, h4⟩
theorem cutV_whole {xs : List V} {lo hi : Option Int} (h : HT.sIx xs.length 0 lo = 0 ∧ HT.sIx xs.length xs.length hi = xs.length) : cutV xs lo hi = xs := by
  unfold cutV
  rw [h.1, h.2]
  simp
theorem i_slA {K : PySem.W.Frag} {k : Addr} {xs : List V} {lo hi : Option Int} {H : Hp} {Q : VK} (h : H k = some (.tup xs)) (q : ∀ (p : Addr) (H' : Hp), Same H H' → H' p = some (.tup (cutV xs lo hi)) → Q (.ref p) H') : rSlA K (.ref k) lo hi H Q :=
  ⟨k, xs, rfl, .of h, fun w => q k H (Same.refl H) (by rw [cutV_whole w]; exact h), fun _ p hp => q p _ (same_new hp _) upd_same⟩
theorem i_catA {K : PySem.W.Frag} {a b : Addr} {xs ys : List V} {H : Hp} {Q : VK} (ha : H a = some (.tup xs)) (hb : H b = some (.tup ys)) (hz : xs.length + ys.length ≤ 100000)
    (q : ∀ (p : Addr) (H' : Hp), Same H H' → H' p = some (.tup (xs ++ ys)) → Q (.ref p) H') : rCatA K (.ref a) (.ref b) H Q :=
  ⟨a, b, xs, ys, rfl, rfl, .of ha, .of hb, small_line hz, fun e => q b H (Same.refl H) (by rw [e]; exact hb), fun _ e => q a H (Same.refl H) (by rw [e, List.append_nil]; exact ha), fun _ _ p hp => q p _ (same_new hp _) upd_same⟩
theorem paired_kv {K : PySem.W.Frag} {H : Hp} : ∀ {ts : List Addr} {ss : List (Tx × Nat)}, Paired (fun t (p : Tx × Nat) => H t = some (.tup [.str (S p.1), .int (p.2 : Int)])) ts ss → Paired (fun p (kv : L2.Key × V) => SqT K H p [L2.kV kv.1, kv.2]) ts (kvOf ss)
  | _, _, .nil => .nil
  | _, _, .cons h t => .cons (.of h) (paired_kv t)
theorem no_refs {row : List Nat} {rs : List Addr} (h : nums row = rs.map V.ref) (hn : rs ≠ []) : False := by
  cases rs with
  | nil => exact hn rfl
  | cons r rs =>
    cases row with
    | nil => cases h
    | cons c row => cases h
theorem lst_inj {H : Hp} {a b : Addr} {xs ys : List V} (h : H a = some (.lst xs)) (g : H b = some (.lst ys)) (e : a = b) : xs = ys := by
  rw [e, g] at h
  cases h
  rfl
/-- what holds while the machine is spoilt -/
structure Spoil (c1 c2 c3 : Addr) (cs : List Addr) (sz : Nat) (H0 H : Hp) : Prop where
  keep : Same (hide (c1 :: c2 :: c3 :: cs) H0) (hide (c1 :: c2 :: c3 :: cs) H)
  rows : H c2 = some (.lst (cs.map V.ref))
  row : ∀ r ∈ cs, ∃ xs, H r = some (.lst xs) ∧ xs.length = sz
  good : ∃ xs, H c3 = some (.lst xs)
theorem Spoil.set {c1 c2 c3 r : Addr} {cs : List Addr} {sz j : Nat} {H0 H : Hp} {xs : List V} {v : V} (h : Spoil c1 c2 c3 cs sz H0 H) (hr : r ∈ cs) (n : r ≠ c2) (hl : xs.length = sz) : Spoil c1 c2 c3 cs sz H0 (upd H r (.lst (xs.set j v))) := by
  refine ⟨?_, by rw [upd_ne n.symm]; exact h.rows, fun b hb => ?_, ?_⟩
  · rw [hide_upd (by simp [hr])]
    exact h.keep
  · by_cases e : b = r
    · rw [e]
      exact ⟨_, upd_same, by rw [List.length_set]; exact hl⟩
    · rw [upd_ne e]
      exact h.row b hb
  · by_cases e : c3 = r
    · rw [e]
      exact ⟨_, upd_same⟩
    · rw [upd_ne e]
      exact h.good
theorem fresh_hide {B : List Addr} {H H' : Hp} (h : Lists B H) : Same (fresh H H') (hide B H') := fun b o e => by
  obtain ⟨e1, e2⟩ := fresh_inv e
  exact hide_new' h e1 e2
theorem i_chain {r r' : R2} {ta tb tc : TE} {σ : L2.St} {H : Hp} {Q : VK} (h : ta σ H fun x H1 => tb σ H1 fun y H2 => r x y H2 fun z H3 => ∃ k, z = .bl k ∧ (if k = true then tc σ H3 fun w' H4 => r' y w' H4 Q else Q (.bl false) H3)) : tChain r r' ta tb tc σ H Q := h
/-- a reader made later than another is none of its three -/
theorem fresh_own {B : List Addr} {H13 H14 Hm : Hp} {x a5 a6 : Addr} {o1 o2 o3 : HO} (hB : Lists B H13) (k : Same (hide B H14) (hide B Hm)) (h1 : H13 x = some o1) (h2 : H13 a5 = some o2) (h3 : H13 a6 = some o3) : Same (fresh H13 H14) (own3 x a5 a6 Hm) := fun b o e => by
  have e1 := hide_same _ _ _ _ (k _ _ (fresh_hide hB _ _ e))
  have hb := (fresh_inv e).1
  show hide [x, a5, a6] Hm b = some o
  rw [hide_get]
  · exact e1
  · intro hm
    simp only [List.mem_cons, List.not_mem_nil, or_false] at hm
    rcases hm with rfl | rfl | rfl
    · rw [h1] at hb; cases hb
    · rw [h2] at hb; cases hb
    · rw [h3] at hb; cases hb
/-! ## 43. The law -/
def spLaw (K : PySem.W.Frag) : Sp := fun vs H Q _ => ∃ (a : Addr) (ns : List Int), vs = [.ref a] ∧ SqL K H a (ns.map V.int) ∧ ∀ H', Q (.bl true) H'
abbrev NLaw : List Str := ["_law_script", "_law_labels_here", "_law_size", "_law_machine_here", "_law_k", "_law_tree_here", "_law_other", "_law_j", "_law_state_here", "_law_kept", "_law_line", "_law_reader", "_law_second", "_law_row", "_law_q", "_law_many"]
theorem scLaw : FnScope NLaw ["_law_script"] (defScope sLaw) := ⟨rfl, rfl, rfl, by decide +kernel, rfl, by decide +kernel, by decide +kernel⟩
section
variable {P : Program} {w : World} {K : PySem.W.Frag} {mg : Str → Option Value} {base : Heap} {C CN : Addr}
theorem ok_law {f : Addr} {fd : FuncData} (F : Fun K "law" "law" sLaw f fd) (T : Txt K mg C) (cal_labels : Cal P w K mg base CX0 "_law_labels" 2 ["_law_script", "_law_k"] (spLabels K)) (cal_draw : Cal P w K mg base CX0 "_law_draw" 1 ["_law_script", "_law_k", "_law_many"] (spDraw K))
    (cal_machine : Cal P w K mg base CX0 "_law_machine" 2 ["_law_script", "_law_k", "_law_size", "_law_labels_here"] (spMachine K)) (cal_tree : Cal P w K mg base CX0 "_law_tree" 2 ["_law_script", "_law_k", "_law_many", "_law_labels_here"] (spTree K))
    (cal_state : Cal P w K mg base CX0 "_law_state" 10 ["_law_starts", "_law_steps", "_law_tree_here"] (spState 10)) (cal_text : Cal P w K mg base CX0 "_law_text" 10 ["_law_tree_here"] (spText 10)) (cal_Reader : CalN P w K mg base C)
    (cal_passes : Cal P w K mg base CX0 "_law_passes" 8 ["_law_script", "_law_k", "_law_reader", "_law_line"] (spPasses K C)) (cal_at_end : Cal P w K mg base CX0 "_law_at_end" 7 ["_law_reader", "_law_script"] (spAtEnd K C))
    (cal_left_bears : Cal P w K mg base CX0 "_law_left_bears" 7 ["_law_machine_here", "_law_line"] spBears) (cal_same_beginning : Cal P w K mg base CX0 "_law_same_beginning" 1 ["_law_one", "_law_other"] spSame) :
    FnOk P w K mg base CX0 11 f fd ["_law_script"] (spLaw K) := by
  refine F.ok scLaw (fun vs H Q E h => ?_) (fun cdv A outer s H vs Q E hr h => ?_)
  · obtain ⟨a, ns, rfl, _⟩ := h
    rfl
  · obtain ⟨a, ns, rfl, hS, q⟩ := h
    refine ⟨_, (pss_cons (ps_set (i := 1) scLaw.nd rfl (Or.inl rfl) (pcal cal_labels (hr.mono (by decide)) (pa_cons (pv 0) (pa_cons pe_int pa_nil))))
    (pss_cons (ps_set (i := 2) scLaw.nd rfl (Or.inl rfl) (pe_op op_add pe_int (pcal cal_draw (hr.mono (by decide)) (pa_cons (pv 0) (pa_cons pe_int (pa_cons pe_int pa_nil))))))
    (pss_cons (ps_set (i := 3) scLaw.nd rfl (Or.inl rfl) (pcal cal_machine (hr.mono (by decide)) (pa_cons (pv 0) (pa_cons pe_int (pa_cons (pv 2) (pa_cons (pv 1) pa_nil))))))
    (pss_cons (ps_set (i := 4) scLaw.nd rfl (Or.inl rfl) (pe_op op_add (pe_op op_add (pe_op op_add pe_int (pe_callB call_lenQ (by rfl) T.len (by decide +kernel) (pa_cons (pv 1) pa_nil))) (pe_op op_mul (pe_op op_sub (pv 2) pe_int) (pe_op op_sub (pv 2) pe_int))) (pv 2)))
    (pss_cons (ps_set (i := 5) scLaw.nd rfl (Or.inl rfl) (pcal cal_tree (hr.mono (by decide)) (pa_cons (pv 0) (pa_cons (pv 4) (pa_cons (pe_op op_add pe_int (pcal cal_draw (hr.mono (by decide)) (pa_cons (pv 0) (pa_cons (pe_op op_add (pv 4) pe_int) (pa_cons pe_int pa_nil))))) (pa_cons (pv 1) pa_nil))))))
    (pss_cons (ps_set (i := 6) scLaw.nd rfl (Or.inl rfl) (pcal cal_tree (hr.mono (by decide)) (pa_cons (pv 0) (pa_cons (pe_op op_add (pv 4) pe_int) (pa_cons (pe_op op_add pe_int (pcal cal_draw (hr.mono (by decide)) (pa_cons (pv 0) (pa_cons (pe_op op_add (pv 4) pe_int) (pa_cons pe_int pa_nil))))) (pa_cons (pv 1) pa_nil))))))
    (pss_cons (ps_if (PW.pt (pw_and (pt_cmpR op_eq (pcal cal_draw (hr.mono (by decide)) (pa_cons (pv 0) (pa_cons (pe_op op_add (pv 4) pe_int) (pa_cons pe_int pa_nil)))) pe_int (nomark _)) (pw_and1 (pt_cmpR op_gt (pe_callB call_lenQ (by rfl) T.len (by decide +kernel) (pa_cons (pe_ix ix_tup (pv 5) pe_int (fun _ _ => rfl)) pa_nil)) pe_int (nomark _)))))
      (pss_cons (ps_set (i := 7) scLaw.nd rfl (Or.inl rfl) (pcal cal_draw (hr.mono (by decide)) (pa_cons (pv 0) (pa_cons (pe_op op_add (pv 4) pe_int) (pa_cons (pe_callB call_lenQ (by rfl) T.len (by decide +kernel) (pa_cons (pe_ix ix_tup (pv 5) pe_int (fun _ _ => rfl)) pa_nil)) pa_nil)))))
    (pss_one (ps_set (i := 6) scLaw.nd rfl (Or.inl rfl) (pe_tup (pa_cons (pe_ix ix_tup (pv 5) pe_int (fun _ _ => rfl)) (pa_cons (pe_ix ix_tup (pv 5) pe_int (fun _ _ => rfl)) (pa_cons (pe_op op_catA (pe_slice sl_tupA (pe_ix ix_tup (pv 5) pe_int (fun _ _ => rfl)) po_none (po_some (pv 7))) (pe_slice sl_tupA (pe_ix ix_tup (pv 5) pe_int (fun _ _ => rfl)) (po_some (pe_op op_add (pv 7) pe_int)) po_none)) pa_nil)))))))
      pss_nil)
    (pss_cons (ps_set (i := 8) scLaw.nd rfl (Or.inl rfl) (pcal cal_state (hr.mono (by decide)) (pa_cons (pe_callTy (call_dictP rfl) (by rfl) T.dict (by decide +kernel) (pa_cons (pe_ix ix_tup (pv 3) pe_int (fun _ _ => rfl)) pa_nil)) (pa_cons (pe_ix ix_tup (pv 3) pe_int (fun _ _ => rfl)) (pa_cons (pv 5) pa_nil)))))
    (pss_cons (ps_if (PW.pt (pw_and (pt_cmpR op_ne (pv 8) pe_int (nomark _)) (pw_and (pt_cmpR op_gt (pe_op op_fdivN (pcal cal_draw (hr.mono (by decide)) (pa_cons (pv 0) (pa_cons pe_int (pa_cons pe_int pa_nil)))) pe_int) pe_int (nomark _)) (pw_and1 (pt_cmpR op_notIn_seq (pv 8) (pe_ix ix_tup (pv 3) pe_int (fun _ _ => rfl)) rfl)))))
      (pss_one (ps_set (i := 3) scLaw.nd rfl (Or.inl rfl) (pe_tup (pa_cons (pe_ix ix_tup (pv 3) pe_int (fun _ _ => rfl)) (pa_cons (pe_ix ix_tup (pv 3) pe_int (fun _ _ => rfl)) (pa_cons (pe_callB cr_sorted (by rfl) T.sorted (by decide +kernel) (pa_cons (pe_op op_cat (pe_ix ix_tup (pv 3) pe_int (fun _ _ => rfl)) (pe_lst (pa_cons (pv 8) pa_nil))) pa_nil)) pa_nil))))))
      pss_nil)
    (pss_cons (ps_set (i := 9) scLaw.nd rfl (Or.inl rfl) (pe_tup (pa_cons (pe_callTy call_listOf (by rfl) T.list (by decide +kernel) (pa_cons (pe_ix ix_tup (pv 3) pe_int (fun _ _ => rfl)) pa_nil)) (pa_cons (pe_lc (own := [("_law_row", 13)]) (g := gName 13) (tt := tYes) (te := tCB (rListOf K) (tCons (tVar 13) tNil)) rfl scLaw.nd (pi_list (pe_ix ix_tup (pv 3) pe_int (fun _ _ => rfl))) (blkOk_by (own := [("_law_row", 13)]) (N := NLaw) (sc := defScope sLaw) (by decide +kernel)) (fun _ _ _ _ _ => pg_name (i := 13) scLaw.nd rfl (Or.inl rfl)) (fun _ _ _ _ _ => pts_nil) (fun _ _ _ _ _ => (pe_callTy call_listOf (by rfl) T.list (by decide +kernel) (pa_cons (pv 13) pa_nil)))) (pa_cons (pe_callTy call_listOf (by rfl) T.list (by decide +kernel) (pa_cons (pe_ix ix_tup (pv 3) pe_int (fun _ _ => rfl)) pa_nil)) pa_nil)))))
    (pss_cons (ps_set (i := 10) scLaw.nd rfl (Or.inl rfl) (pcal cal_text (hr.mono (by decide)) (pa_cons (pv 5) pa_nil)))
    (pss_cons (ps_set (i := 11) scLaw.nd rfl (Or.inl rfl) (pmake cal_Reader (hr.mono (by decide)) (pa_cons (pv 3) pa_nil)))
    (pss_cons (ps_set (i := 12) scLaw.nd rfl (Or.inl rfl) (pmake cal_Reader (hr.mono (by decide)) (pa_cons (pv 3) pa_nil)))
    (pss_cons (ps_if (pt_cmpR (op_neD hr.units) (pv 3) (pv 9) (nomark _))
      (pss_one (ps_ret pe_bl))
      pss_nil)
    (pss_cons (ps_expr (pe_bm0 PySem.F.plainAttrs_list PySem.F.slot_list_clear PySem.F.type_list_clear mt_clear (pe_ix ix_tup (pv 3) pe_int (fun _ _ => rfl))))
    (pss_cons (ps_for PassesOwn.never rfl (pi_list (pe_ix ix_tup (pv 3) pe_int (fun _ _ => rfl))) (pg_name (i := 13) scLaw.nd rfl (Or.inl rfl))
      (pss_one (ps_for PassesOwn.never rfl (pi_range1 rfl T.range (pa_cons (pv 2) pa_nil)) (pg_name (i := 14) scLaw.nd rfl (Or.inl rfl))
      (pss_one (ps_asg pe_int (pg_sub (pv 13) (pv 14) set_list))))))
    (pss_cons (ps_expr (pe_bm PySem.F.plainAttrs_list PySem.F.slot_list_append PySem.F.type_list_append mt_append (pe_ix ix_tup (pv 3) pe_int (fun _ _ => rfl)) (pa_cons (pe_lst (pa_cons pe_int pa_nil)) pa_nil)))
    (pss_cons (ps_expr (pe_bm0 PySem.F.plainAttrs_list PySem.F.slot_list_clear PySem.F.type_list_clear mt_clear (pe_ix ix_tup (pv 3) pe_int (fun _ _ => rfl))))
    (pss_cons (ps_set (i := 15) scLaw.nd rfl (Or.inl rfl) (pcal cal_passes (hr.mono (by decide)) (pa_cons (pv 0) (pa_cons (pe_op op_add (pv 4) pe_int) (pa_cons (pv 11) (pa_cons (pv 10) pa_nil))))))
    (pss_cons (ps_if (pt_cmpR op_notIn_seq (pv 8) (pe_ix ix_tup (pv 9) pe_int (fun _ _ => rfl)) rfl)
      (pss_one (ps_ret (pe_chain op_le op_lt pe_int (pv 15) (pe_callB call_lenS (by rfl) T.len (by decide +kernel) (pa_cons (pv 10) pa_nil)))))
      pss_nil)
    (pss_cons (ps_if (PW.pt (pw_or (pt_cmpR op_ne (pv 15) (pe_callB call_lenS (by rfl) T.len (by decide +kernel) (pa_cons (pv 10) pa_nil)) (nomark _)) (pw_or (pt_not (pt_val (pcal cal_at_end (hr.mono (by decide)) (pa_cons (pv 11) (pa_cons (pv 0) pa_nil))))) (pw_or1 (pt_not (pt_val (pcal cal_left_bears (hr.mono (by decide)) (pa_cons (pv 9) (pa_cons (pv 10) pa_nil)))))))))
      (pss_one (ps_ret pe_bl))
      pss_nil)
    (pss_cons (ps_set (i := 10) scLaw.nd rfl (Or.inl rfl) (pcal cal_text (hr.mono (by decide)) (pa_cons (pv 6) pa_nil)))
    (pss_one (ps_ret (pe_cmpR op_ge (pcal cal_passes (hr.mono (by decide)) (pa_cons (pv 0) (pa_cons (pe_op op_add (pv 4) pe_int) (pa_cons (pv 12) (pa_cons (pv 10) pa_nil))))) (pcal cal_same_beginning (hr.mono (by decide)) (pa_cons (pv 10) (pa_cons (pcal cal_text (hr.mono (by decide)) (pa_cons (pv 5) pa_nil)) pa_nil))) (nomark _)))))))))))))))))))))))))), ?_⟩
    simp only [cx_K]
    walk_at "rd"
    refine ⟨a, ns, 1, rfl, hS, by omega, by omega, fun aL H1 ls hL s1 hL1 hok hnd hne hlen => ?_⟩
    walk_at "rd"
    refine ⟨a, ns, 0, 6, rfl, s1.seq hS, by omega, by omega, by omega, fun z z0 z1 => ?_⟩
    obtain ⟨z, rfl⟩ := Int.eq_ofNat_of_zero_le z0
    walk_at "rd"
    obtain ⟨sz, esz⟩ : ∃ sz : Nat, sz = 1 + z := ⟨_, rfl⟩
    rw [show (1 + (z : Int)) = (sz : Int) by omega]
    have hs1 : 1 ≤ sz := by omega
    have hs6 : sz ≤ 6 := by omega
    clear esz z0 z1 z
    refine ⟨a, ns, 5, sz, aL, ls, rfl, s1.seq hS, by omega, by omega, hs1, hs6, hL1, hlen, hok, hnd, fun m H2 M s2 hm hM hn hgl => ?_⟩
    have hL2 := s2 _ _ hL1
    have hm := hm.base s1
    have s2 := s1.trans s2
    walk_at "rd"
    refine i_lenl (.of hL2) ?_
    walk_at "rd"
    refine i_mulL (by omega) ?_
    walk_at "rd"
    have hlen' : (txts ls).length ≤ 4 := by rw [List.length_map]; exact hlen
    have hsq : 0 ≤ ((sz : Int) - 1) * ((sz : Int) - 1) ∧ ((sz : Int) - 1) * ((sz : Int) - 1) ≤ 25 := by
      have hcs : sz = 1 ∨ sz = 2 ∨ sz = 3 ∨ sz = 4 ∨ sz = 5 ∨ sz = 6 := by omega
      rcases hcs with e | e | e | e | e | e <;> rw [e] <;> decide
    obtain ⟨kk, hk⟩ : ∃ kk : Int, kk = 5 + ((txts ls).length : Int) + ((sz : Int) - 1) * ((sz : Int) - 1) + (sz : Int) := ⟨_, rfl⟩
    rw [← hk]
    have hk0 : 0 ≤ kk := by rw [hk]; omega
    have hk1 : kk ≤ 40 := by rw [hk]; omega
    clear hk hsq
    refine ⟨a, ns, kk + 1, 9, rfl, s2.seq hS, by omega, by omega, by omega, fun v v0 v1 => ?_⟩
    walk_at "rd"
    refine ⟨a, ns, kk, 1 + v, aL, ls, rfl, s2.seq hS, by omega, by omega, by omega, by omega, hL2, hne, by omega, hok, fun r1 H3 t s3 ht htok htn => ?_⟩
    have hL3 := s3 _ _ hL2
    have hm := hm.mono s3
    have s3 := s2.trans s3
    clear v0 v1 v
    walk_at "rd"
    refine ⟨a, ns, kk + 2, 9, rfl, s3.seq hS, by omega, by omega, by omega, fun v v0 v1 => ?_⟩
    walk_at "rd"
    refine ⟨a, ns, kk + 18, 1 + v, aL, ls, rfl, s3.seq hS, by omega, by omega, by omega, by omega, hL3, hne, by omega, hok, fun r0 H4 t0 s4 ht0 htok0 htn0 => ?_⟩
    have hm := hm.mono s4
    have ht := ht.mono s4
    have s4 := s3.trans s4
    clear v0 v1 v
    obtain ⟨tg, wd, ks⟩ := t
    obtain ⟨ka, as, ht1, ht2, ht3⟩ := id ht
    have hal := trees_len ht3
    -- the second tree
    walk_at "rs"
    with_reducible refine i_seq ?_
    refine byS (fun N => ∀ (r2 : Addr) (H' : Hp) (t2 : K39.T) (v7 : Option V), Same H4 H' → TreeAt H' r2 t2 → t2.Ok → t2.nodes ≤ 9 →
      N [some (.ref a), some (.ref aL), some (.int (sz : Int)), some (.ref m), some (.int kk), some (.ref r1), some (.ref r2), v7, none, none, none, none, none, none, none, none] H') ?_ ?_
    · intro N go
      have hks : ks.length ≤ 100 := by
        have := kids_le ks
        have e : (K39.T.node tg wd ks).nodes = 1 + nodess ks := rfl
        omega
      walk_at "rd"
      refine ⟨a, ns, kk + 3, 2, rfl, s4.seq hS, by omega, by omega, by omega, fun v v0 v1 => ?_⟩
      walk_at "rd"
      by_cases hv : v = 1
      · subst hv
        refine iT (decide_eq_true rfl) ?_
        walk_at "rd"
        refine i_ixt (v := .ref ka) (.of ht1) (show atI _ ((2 : Nat) : Int) = _ from atI_nat rfl) ?_
        walk_at "rd"
        refine i_lent (.of ht2) ?_
        walk_at "rd"
        rw [List.length_map]
        by_cases h0 : (0 : Int) < ((as.length : Nat) : Int)
        · refine iT (decide_eq_true h0) ?_
          walk_at "rd"
          refine i_ixt (v := .ref ka) (.of ht1) (show atI _ ((2 : Nat) : Int) = _ from atI_nat rfl) ?_
          walk_at "rd"
          refine i_lent (.of ht2) ?_
          walk_at "rd"
          rw [List.length_map]
          refine ⟨a, ns, kk + 4, as.length, rfl, s4.seq hS, by omega, by omega, h0, fun j j0 j1 => ?_⟩
          obtain ⟨j, rfl⟩ := Int.eq_ofNat_of_zero_le j0
          walk_at "rd"
          refine i_ixt (v := .str (S tg)) (.of ht1) (show atI _ ((0 : Nat) : Int) = _ from atI_nat rfl) ?_
          walk_at "rd"
          refine i_ixt (v := .str (S wd)) (.of ht1) (show atI _ ((1 : Nat) : Int) = _ from atI_nat rfl) ?_
          walk_at "rd"
          refine i_ixt (v := .ref ka) (.of ht1) (show atI _ ((2 : Nat) : Int) = _ from atI_nat rfl) ?_
          walk_at "rd"
          refine i_slA ht2 fun p5 H5 s5 hp5 => ?_
          walk_at "rd"
          refine i_ixt (v := .ref ka) (.of (s5 _ _ ht1)) (show atI _ ((2 : Nat) : Int) = _ from atI_nat rfl) ?_
          walk_at "rd"
          refine i_slA (s5 _ _ ht2) fun p6 H6 s6 hp6 => ?_
          have hp5 := s6 _ _ hp5
          rw [cutV_take (by rw [List.length_map]; omega)] at hp5
          rw [show ((j : Int) + 1) = ((j + 1 : Nat) : Int) by omega, cutV_drop (by rw [List.length_map]; omega)] at hp6
          refine i_catA hp5 hp6 (by simp; omega) fun p7 H7 s7 hp7 => ?_
          walk_at "rd"
          refine ⟨by show 3 ≤ sizeLine; decide, fun r2 hr2 => ?_⟩
          walk_at "rd"
          have s47 := ((s5.trans s6).trans s7).trans (same_new hr2 (.tup [.str (S tg), .str (S wd), .ref p7]))
          have hT : TreesAt H4 (as.take j ++ as.drop (j + 1)) (ks.take j ++ ks.drop (j + 1)) := trees_append (trees_take j ht3) (trees_drop (j + 1) ht3)
          refine go r2 _ (.node tg wd (ks.take j ++ ks.drop (j + 1))) _ s47 ⟨p7, as.take j ++ as.drop (j + 1), upd_same, ?_, TreesAt.mono s47 hT⟩ ⟨htok.1, htok.2.1, oks_append (oks_take j htok.2.2) (oks_drop (j + 1) htok.2.2)⟩ ?_
          · rw [upd_ne (ne_of_none hp7 hr2), hp7, List.map_append, List.map_take, List.map_drop]
          · have := nodess_cut ks j
            have e1 : (K39.T.node tg wd ks).nodes = 1 + nodess ks := rfl
            show 1 + nodess (ks.take j ++ ks.drop (j + 1)) ≤ 9
            omega
        · refine iF (decide_eq_false h0) ?_
          walk_at "rd"
          exact go r0 H4 t0 _ (Same.refl H4) ht0 htok0 htn0
      · refine iF (decide_eq_false (fun e => hv (V.int.inj e))) ?_
        walk_at "rd"
        exact go r0 H4 t0 _ (Same.refl H4) ht0 htok0 htn0
    intro r2 H5 t2 v7 s5 ht2' htok2 htn2
    have hm := hm.mono s5
    have ht := ht.mono s5
    have s5 := s4.trans s5
    clear ht0 htok0 htn0 s4 ht1 ht2 ht3 hal
    -- the state
    obtain ⟨c1, c2, c3, cs, m0, n1, n2, n3, nr, mst, mrs, mpr, mg0⟩ := id hm
    obtain ⟨ts, mts, mtp⟩ := id mst
    walk_at "rs"
    with_reducible refine i_seq ?_
    walk_at "rd"
    refine i_ixt (v := .ref c1) (.of m0) (show atI _ ((0 : Nat) : Int) = _ from atI_nat rfl) ?_
    walk_at "rd"
    refine ⟨c1, ts, kvOf M.starts, rfl, .of mts, paired_kv mtp, fun d hd => ?_⟩
    have s6 : Same H5 (upd H5 d (.dK (mergeK [] (kvOf M.starts)))) := same_new hd _
    have hD : DictAt (upd H5 d (.dK (mergeK [] (kvOf M.starts)))) d M.starts := dict_at hM.uniq upd_same
    generalize (upd H5 d (.dK (mergeK [] (kvOf M.starts)))) = H6 at s6 hD ⊢
    walk_at "rd"
    refine i_ixt (v := .ref c2) (.of (s6 _ _ m0)) (show atI _ ((1 : Nat) : Int) = _ from atI_nat rfl) ?_
    walk_at "rd"
    refine ⟨d, c2, r1, M, .node tg wd ks, rfl, hD, ⟨cs, s6 _ _ mrs, paired_mono mpr fun _ _ e => s6 _ _ e⟩, ht.mono s6, hM, htok, by omega, ?_⟩
    have hm := hm.mono s6
    have ht := ht.mono s6
    have ht2' := ht2'.mono s6
    have s6 := s5.trans s6
    clear m0 n1 n2 n3 nr mst mrs mpr mg0 mts mtp hD hd s5
    walk_at "rs"
    with_reducible refine i_seq ?_
    refine byS (fun N => ∀ (m2 : Addr) (H' : Hp) (M2 : Mac), Same H6 H' → NewMac H H' m2 M2 → M2.Ok → M2.n = sz → (K39.T.node tg wd ks).st M2 = (K39.T.node tg wd ks).st M →
      N [some (.ref a), some (.ref aL), some (.int (sz : Int)), some (.ref m2), some (.int kk), some (.ref r1), some (.ref r2), v7, some (.int (((K39.T.node tg wd ks).st M : Nat) : Int)), none, none, none, none, none, none, none] H') ?_ ?_
    · intro N go
      have stay : N [some (.ref a), some (.ref aL), some (.int (sz : Int)), some (.ref m), some (.int kk), some (.ref r1), some (.ref r2), v7, some (.int (((K39.T.node tg wd ks).st M : Nat) : Int)), none, none, none, none, none, none, none] H6 :=
        go m H6 M (Same.refl H6) hm hM hn rfl
      have hstn := st_lt hM (K39.T.node tg wd ks)
      generalize est : (K39.T.node tg wd ks).st M = st at go stay hstn ⊢
      obtain ⟨c1, c2, c3, cs, m0, n1, n2, n3, nr, mst, mrs, mpr, mg0⟩ := id hm
      walk_at "rd"
      by_cases h0 : (st : Int) = 0
      · refine iF (by rw [h0]; rfl) ?_
        walk_at "rd"
        exact stay
      · refine iT (by rw [decide_eq_false (fun e => h0 (V.int.inj e))]; rfl) ?_
        walk_at "rd"
        refine ⟨a, ns, 0, 18, rfl, s6.seq hS, by omega, by omega, by omega, fun v v0 v1 => ?_⟩
        walk_at "rd"
        by_cases hv : (0 : Int) < v.fdiv 6
        · refine iT (decide_eq_true hv) ?_
          walk_at "rd"
          refine i_ixt (v := .ref c3) (.of m0) (show atI _ ((2 : Nat) : Int) = _ from atI_nat rfl) ?_
          walk_at "rd"
          refine i_ninL (.of mg0) rfl (flat_nums _) ?_
          rw [inV_nums]
          walk_at "rd"
          by_cases hi : st ∈ M.good
          · refine iF (by rw [decide_eq_true hi]; rfl) ?_
            walk_at "rd"
            exact stay
          · refine iT (by rw [decide_eq_false hi]; rfl) ?_
            walk_at "rd"
            refine i_ixt (v := .ref c1) (.of m0) (show atI _ ((0 : Nat) : Int) = _ from atI_nat rfl) ?_
            walk_at "rd"
            refine i_ixt (v := .ref c2) (.of m0) (show atI _ ((1 : Nat) : Int) = _ from atI_nat rfl) ?_
            walk_at "rd"
            refine i_ixt (v := .ref c3) (.of m0) (show atI _ ((2 : Nat) : Int) = _ from atI_nat rfl) ?_
            walk_at "rd"
            refine ⟨by show 1 ≤ sizeLine; decide, fun q1 hq1 => ?_⟩
            have t1 : Same H6 (upd H6 q1 (.lst [.int (st : Int)])) := same_new hq1 _
            have hq1' : (upd H6 q1 (.lst [.int (st : Int)])) q1 = some (.lst [.int (st : Int)]) := upd_same
            generalize (upd H6 q1 (.lst [.int (st : Int)])) = G1 at t1 hq1' ⊢
            refine ⟨c3, q1, nums M.good, [.int (st : Int)], rfl, rfl, t1 _ _ mg0, hq1', by rw [List.length_map]; exact small_line (by simp; omega), fun q2 hq2 => ?_⟩
            have t2 := t1.trans (same_new hq2 (.lst (nums M.good ++ [.int (st : Int)])))
            have hq2' : (upd G1 q2 (.lst (nums M.good ++ [.int (st : Int)]))) q2 = some (.lst (((M.good ++ [st]).map fun (n : Nat) => (n : Int)).map V.int)) := by rw [upd_same, nums_ints, nums_snoc]
            generalize (upd G1 q2 (.lst (nums M.good ++ [.int (st : Int)]))) = G2 at t2 hq2' ⊢
            walk_at "rd"
            refine ⟨q2, (M.good ++ [st]).map fun (n : Nat) => (n : Int), rfl, .of hq2', by simp; omega, fun ns' q3 perm _ hq3 => ?_⟩
            obtain ⟨g', rfl, hg'⟩ := perm_nats perm
            have t3 := t2.trans (same_new hq3 (.lst ((g'.map fun (n : Nat) => (n : Int)).map V.int)))
            have hq3' : (upd G2 q3 (.lst ((g'.map fun (n : Nat) => (n : Int)).map V.int))) q3 = some (.lst (nums g')) := by rw [upd_same, nums_ints]
            have f3 := same_none t2 hq3
            generalize (upd G2 q3 (.lst ((g'.map fun (n : Nat) => (n : Int)).map V.int))) = G3 at t3 hq3' ⊢
            walk_at "rd"
            refine ⟨by show 3 ≤ sizeLine; decide, fun m2 hm2 => ?_⟩
            walk_at "rd"
            have t4 := same_new hm2 (.tup [.ref c1, .ref c2, .ref q3])
            refine go m2 _ { M with good := g' } (t3.trans t4) ⟨c1, c2, q3, cs, upd_same, n1, n2, same_none s6 f3, nr, (mst.mono t3).mono t4, t4 _ _ (t3 _ _ mrs), paired_mono mpr fun _ _ e => t4 _ _ (t3 _ _ e), t4 _ _ hq3'⟩ (ok_good hM fun s hs => ?_) hn ((st_good M g' _).trans est)
            rcases List.mem_append.mp ((hg' s).mp hs) with hs | hs
            · exact ⟨hM.good_lt s hs, hM.good_pos s hs⟩
            · rw [List.mem_singleton] at hs
              rw [hs]
              exact ⟨hstn, by omega⟩
        · refine iF (decide_eq_false hv) ?_
          walk_at "rd"
          exact stay
    intro m2 H7 M2 s7 hm2 hM2 hn2 hst
    have ht := ht.mono s7
    have ht2' := ht2'.mono s7
    have s7 := s6.trans s7
    clear hm hM hn s6
    -- the copy that is kept
    obtain ⟨c1, c2, c3, cs, m0, n1, n2, n3, nr, mst, mrs, mpr, mg0⟩ := id hm2
    obtain ⟨ts, mts, mtp⟩ := id mst
    have hcl : cs.length = sz := (Paired.length mpr).trans hn2
    have hB : Lists (c1 :: c2 :: c3 :: cs) H7 := by
      intro b hb
      rcases List.mem_cons.mp hb with rfl | hb
      · exact ⟨_, mts⟩
      rcases List.mem_cons.mp hb with rfl | hb
      · exact ⟨_, mrs⟩
      rcases List.mem_cons.mp hb with rfl | hb
      · exact ⟨_, mg0⟩
      · obtain ⟨i, hi, e⟩ := List.getElem_of_mem hb
        obtain ⟨row, _, hr⟩ := paired_get mpr (List.getElem?_eq_some_iff.mpr ⟨hi, e⟩)
        exact ⟨_, hr⟩
    walk_at "rd"
    refine i_ixt (v := .ref c1) (.of m0) (show atI _ ((0 : Nat) : Int) = _ from atI_nat rfl) ?_
    walk_at "rd"
    refine i_listOf (.of mts) fun k1 hk1 => ?_
    have u1 : Same H7 (upd H7 k1 (.lst (ts.map V.ref))) := same_new hk1 _
    have hk1' : (upd H7 k1 (.lst (ts.map V.ref))) k1 = some (.lst (ts.map V.ref)) := upd_same
    generalize (upd H7 k1 (.lst (ts.map V.ref))) = G1 at u1 hk1' ⊢
    walk_at "rd"
    refine i_ixt (v := .ref c2) (.of (u1 _ _ m0)) (show atI _ ((1 : Nat) : Int) = _ from atI_nat rfl) ?_
    refine ⟨c2, rfl, ⟨_, .of (u1 _ _ mrs)⟩, copy_lc (src := fun row : List Nat => .lst (nums row)) (dst := fun row : List Nat => .lst (nums row)) (u1 _ _ mrs) (paired_mono mpr fun _ _ e => u1 _ _ e) (by omega) ?_ fun k2 G2 ps hk2 u2 hps hk2' pp2 => ?_⟩
    · intro r p H' Q' hr hq
      walk_at "rd"
      exact i_listOf (.of hr) hq
    have u12 := u1.trans u2
    walk_at "rd"
    refine i_ixt (v := .ref c3) (.of (u12 _ _ m0)) (show atI _ ((2 : Nat) : Int) = _ from atI_nat rfl) ?_
    walk_at "rd"
    refine i_listOf (.of (u12 _ _ mg0)) fun k3 hk3 => ?_
    have u3 : Same G2 (upd G2 k3 (.lst (nums M2.good))) := same_new hk3 _
    have hk3' : (upd G2 k3 (.lst (nums M2.good))) k3 = some (.lst (nums M2.good)) := upd_same
    generalize (upd G2 k3 (.lst (nums M2.good))) = G3 at u3 hk3' ⊢
    walk_at "rd"
    refine ⟨by show 3 ≤ sizeLine; decide, fun kt hkt => ?_⟩
    have u4 : Same G3 (upd G3 kt (.tup [.ref k1, .ref k2, .ref k3])) := same_new hkt _
    have hkt' : (upd G3 kt (.tup [.ref k1, .ref k2, .ref k3])) kt = some (.tup [.ref k1, .ref k2, .ref k3]) := upd_same
    generalize (upd G3 kt (.tup [.ref k1, .ref k2, .ref k3])) = G4 at u4 hkt' ⊢
    walk_at "rd"
    have u13 := u12.trans u3
    have u14 := u13.trans u4
    refine ⟨r1, .node tg wd ks, rfl, ht.mono u14, htok, by omega, by omega, fun H12 u5 => ?_⟩
    have u15 := u14.trans u5
    have hB12 := hB.mono u15
    -- what stays
    have wk : hide (c1 :: c2 :: c3 :: cs) H12 kt = some (.tup [.ref k1, .ref k2, .ref k3]) := hide_new' hB (same_none u13 hkt) (u5 _ _ hkt')
    have wg : hide (c1 :: c2 :: c3 :: cs) H12 k3 = some (.lst (nums M2.good)) := hide_new' hB (same_none u12 hk3) (u5 _ _ (u4 _ _ hk3'))
    have wm : MacAt (hide (c1 :: c2 :: c3 :: cs) H12) kt M2 := by
      refine ⟨k1, k2, k3, wk, ⟨ts, hide_new' hB hk1 (u5 _ _ (u4 _ _ (u3 _ _ (u2 _ _ hk1')))), paired_mono mtp fun _ _ e => hide_tup hB12 (u15 _ _ e)⟩, ⟨ps, hide_new' hB (same_none u1 hk2) (u5 _ _ (u4 _ _ (u3 _ _ hk2'))), ?_⟩, wg⟩
      exact paired_upd.paired_with pp2 fun p b hm e => hide_new' hB (same_none u1 (hps p hm).1) (u5 _ _ (u4 _ _ (u3 _ _ e)))
    have wt : TreeAt (hide (c1 :: c2 :: c3 :: cs) H12) r1 (.node tg wd ks) := (ht.mono u15).hide hB12
    have wt2 : TreeAt (hide (c1 :: c2 :: c3 :: cs) H12) r2 t2 := (ht2'.mono u15).hide hB12
    have ws : Same H (hide (c1 :: c2 :: c3 :: cs) H12) := by
      refine same_hide (s7.trans u15) fun b hb => ?_
      rcases List.mem_cons.mp hb with rfl | hb
      · exact n1
      rcases List.mem_cons.mp hb with rfl | hb
      · exact n2
      rcases List.mem_cons.mp hb with rfl | hb
      · exact n3
      · exact nr b hb
    have m0 := u15 _ _ m0
    have mts := u15 _ _ mts
    have mrs := u15 _ _ mrs
    have mg0 := u15 _ _ mg0
    have mpr := paired_mono mpr fun _ _ e => u15 _ _ e
    have mtp := paired_mono mtp fun _ _ e => u15 _ _ e
    have hm2 := hm2.at.mono u15
    clear u1 u2 u3 u4 u5 u12 u13 u14 u15 hk1 hk1' hk2 hk2' hk3 hk3' hkt hkt' pp2 hps s7 ht ht2' hB mst
    have hlenL := text_len _ htok
    -- the readers
    walk_at "rd"
    refine i_make ?_
    walk_at "rd"
    intro x1 dx1 hx1 hd1 hn1
    refine made hx1 hd1 hn1 hm2 hM2 fun H13 a5 a6 pr1 s13 h5 h6 rd1 => ?_
    walk_at "rd"
    refine i_make ?_
    walk_at "rd"
    intro x2 dx2 hx2 hd2 hne2
    refine made hx2 hd2 hne2 (hm2.mono s13) hM2 fun H14 b5 b6 pr2 s14 g5 g6 rd2 => ?_
    have s134 := s13.trans s14
    have hB13 := hB12.mono s13
    have hB14 := hB13.mono s14
    walk_at "rd"
    refine ⟨dMac M2, dMac M2, dp_mac (hm2.mono s134), dp_mac (wm.mono ((hide_mono s134).trans (hide_same _ _))), shaped_mac hM2, shaped_mac hM2, ?_⟩
    rw [eqv_mac hM2]
    refine i_k ?_
    refine iF rfl ?_
    -- the machine is spoilt
    have hcs : cs ≠ [] := by intro e; rw [e] at hcl; simp at hcl; omega
    have hrw : ∀ r ∈ cs, ∃ row : List Nat, H12 r = some (.lst (nums row)) ∧ row.length = sz := fun r hr => by
      obtain ⟨i, hi, e⟩ := List.getElem_of_mem hr
      obtain ⟨row, hrow, hr⟩ := paired_get mpr (List.getElem?_eq_some_iff.mpr ⟨hi, e⟩)
      exact ⟨row, hr, by rw [(hM2.row row (List.mem_of_getElem? hrow)).1]; exact hn2⟩
    have n12 : c1 ≠ c2 := fun e => by
      have e2 := lst_inj mts mrs e
      cases cs with
      | nil => exact hcs rfl
      | cons r cs =>
        cases ts with
        | nil => cases e2
        | cons t ts =>
          obtain ⟨pq, _, hp⟩ := paired_get mtp (i := 0) (a := t) rfl
          obtain ⟨row, hr, _⟩ := hrw r List.mem_cons_self
          have e3 : t = r := V.ref.inj (List.cons.inj e2).1
          rw [e3, hr] at hp
          cases hp
    have nrc : ∀ r ∈ cs, r ≠ c2 := fun r hr e => by
      obtain ⟨row, hr, _⟩ := hrw r hr
      exact no_refs (lst_inj hr mrs e) hcs
    have nr1 : ∀ r ∈ cs, r ≠ c1 := fun r hr e => by
      obtain ⟨row, hr, hl⟩ := hrw r hr
      have e2 := lst_inj hr mts e
      cases row with
      | nil => simp at hl; omega
      | cons c row =>
        cases ts with
        | nil => cases e2
        | cons t ts => cases e2
    have n23 : c3 ≠ c2 := fun e => no_refs (lst_inj mg0 mrs e) hcs
    have m14 := s134 _ _ m0
    walk_at "rd"
    refine i_ixt (v := .ref c1) (.of m14) (show atI _ ((0 : Nat) : Int) = _ from atI_nat rfl) ?_
    refine i_ty (s134 _ _ mts) ?_
    refine ⟨c1, _, rfl, rfl, s134 _ _ mts, ?_⟩
    have sp0 : Spoil c1 c2 c3 cs sz H14 (upd H14 c1 (.lst [])) := by
      refine ⟨by rw [hide_upd (by simp)]; exact Same.refl _, by rw [upd_ne n12.symm]; exact s134 _ _ mrs, fun r hr => ?_, ?_⟩
      · obtain ⟨row, h, hl⟩ := hrw r hr
        exact ⟨_, by rw [upd_ne (nr1 r hr)]; exact s134 _ _ h, by rw [List.length_map]; exact hl⟩
      · by_cases e : c3 = c1
        · rw [e]; exact ⟨_, upd_same⟩
        · exact ⟨_, by rw [upd_ne e]; exact s134 _ _ mg0⟩
    have wm14 : hide (c1 :: c2 :: c3 :: cs) H14 m2 = some (.tup [.ref c1, .ref c2, .ref c3]) := hide_tup hB14 m14
    generalize (upd H14 c1 (.lst [])) = H15 at sp0 ⊢
    walk_at "rd"
    refine i_ixt (v := .ref c2) (.of (hide_same _ _ _ _ (sp0.keep _ _ wm14))) (show atI _ ((1 : Nat) : Int) = _ from atI_nat rfl) ?_
    refine ⟨c2, rfl, ⟨_, .of sp0.rows⟩, ?_⟩
    refine for_list (K := K) (a := c2) (xs := cs.map V.ref) (fun i σ H' => ∃ v13 v14 : Option V, σ = [some (.ref a), some (.ref aL), some (.int (sz : Int)), some (.ref m2), some (.int kk), some (.ref r1), some (.ref r2), v7, some (.int (((K39.T.node tg wd ks).st M : Nat) : Int)), some (.ref kt), some (.str (S (K39.T.node tg wd ks).text)), some (.ref x1), some (.ref x2), v13, v14, none] ∧ Spoil c1 c2 c3 cs sz H14 H')
      ⟨none, none, rfl, sp0⟩ (fun i σ H' _ ⟨_, _, _, sp⟩ => .of sp.rows) ?_ ?_
    · rintro i y σ H' hi ⟨v13, v14, rfl, sp⟩
      obtain ⟨r, hr, rfl⟩ := get_map hi
      have hrm := List.mem_of_getElem? hr
      walk_at "rd"
      refine ⟨sz, rfl, by omega, by omega, for_range (n := sz) (fun j σ H' => ∃ v14 : Option V, σ = [some (.ref a), some (.ref aL), some (.int (sz : Int)), some (.ref m2), some (.int kk), some (.ref r1), some (.ref r2), v7, some (.int (((K39.T.node tg wd ks).st M : Nat) : Int)), some (.ref kt), some (.str (S (K39.T.node tg wd ks).text)), some (.ref x1), some (.ref x2), some (.ref r), v14, none] ∧ Spoil c1 c2 c3 cs sz H14 H')
        ⟨v14, rfl, sp⟩ ?_ ?_⟩
      · rintro j σ H' hj ⟨v14, rfl, sp⟩
        have e0 : (0 + (j : Int)) = (j : Int) := by omega
        rw [e0]
        obtain ⟨xs, hx, hl⟩ := sp.row r hrm
        walk_at "rd"
        refine i_gsub ?_
        walk_at "rd"
        refine i_setL hx (by rw [hl]; exact hj) ?_
        exact ⟨_, rfl, sp.set hrm (nrc r hrm) hl⟩
      · rintro σ H' ⟨v14, rfl, sp⟩
        exact ⟨_, _, rfl, sp⟩
    rintro σ H16 ⟨v13, v14, rfl, sp⟩
    walk_at "rd"
    refine i_ixt (v := .ref c2) (.of (hide_same _ _ _ _ (sp.keep _ _ wm14))) (show atI _ ((1 : Nat) : Int) = _ from atI_nat rfl) ?_
    refine i_ty sp.rows ?_
    walk_at "rd"
    refine ⟨by show 1 ≤ sizeLine; decide, fun p hp => ?_⟩
    have nc2p : c2 ≠ p := ne_of_none sp.rows hp
    obtain ⟨gx, hgx⟩ := sp.good
    have nc3p : c3 ≠ p := ne_of_none hgx hp
    walk_at "rd"
    refine i_app (show (upd H16 p (.lst [.int 0])) c2 = some (.lst (cs.map V.ref)) from by rw [upd_ne nc2p]; exact sp.rows) (by rw [List.length_map]; omega) ?_
    have k17 : Same (hide (c1 :: c2 :: c3 :: cs) H14) (hide (c1 :: c2 :: c3 :: cs) (upd (upd H16 p (.lst [.int 0])) c2 (.lst (cs.map V.ref ++ [.ref p])))) := by
      rw [hide_upd (by simp)]
      exact sp.keep.trans (hide_new hp)
    have g17 : (upd (upd H16 p (.lst [.int 0])) c2 (.lst (cs.map V.ref ++ [.ref p]))) c3 = some (.lst gx) := by rw [upd_ne n23, upd_ne nc3p]; exact hgx
    generalize (upd (upd H16 p (.lst [.int 0])) c2 (.lst (cs.map V.ref ++ [.ref p]))) = H17 at k17 g17 ⊢
    walk_at "rd"
    refine i_ixt (v := .ref c3) (.of (hide_same _ _ _ _ (k17 _ _ wm14))) (show atI _ ((2 : Nat) : Int) = _ from atI_nat rfl) ?_
    refine i_ty g17 ?_
    refine ⟨c3, _, rfl, rfl, g17, ?_⟩
    have kp : Same (hide (c1 :: c2 :: c3 :: cs) H14) (hide (c1 :: c2 :: c3 :: cs) (upd H17 c3 (.lst []))) := by
      rw [hide_upd (by simp)]
      exact k17
    generalize (upd H17 c3 (.lst [])) = Hm at kp ⊢
    clear k17 g17 hgx gx nc3p nc2p hp p sp sp0 nrc nr1 hrw n12 n23 mts mrs mg0 mpr mtp m14 wm14 H15 H16 H17
    -- the first reader
    obtain ⟨_, _, _, _, _, _, _, d1⟩ := id rd1.data
    obtain ⟨_, _, _, _, _, _, _, d2⟩ := id rd2.data
    have y1 := (fresh_inv d1.ins).2
    have y2 := (fresh_inv d1.states).2
    have y3 := (fresh_inv d1.costs).2
    have kF := fresh_own hB13 kp y1 y2 y3
    have wn : ∀ {p : Addr}, H12 p = none → hide (c1 :: c2 :: c3 :: cs) H12 p = none := fun h => same_none (hide_same _ _) h
    have wHm : Same (hide (c1 :: c2 :: c3 :: cs) H12) Hm := ((hide_mono s134).trans kp).trans (hide_same _ _)
    have w1 : Same (hide (c1 :: c2 :: c3 :: cs) H12) (own3 x1 a5 a6 Hm) := same_own wHm (wn hx1) (wn h5) (wn h6)
    have rd1m := rd1.mono (((fresh_hide hB12).trans (hide_mono s14)).trans (kp.trans (hide_same _ _)))
    clear y1 y2 y3 kp d1 d2
    have hlenT : (K39.T.node tg wd ks).text.length ≤ 50000 := by omega
    walk_at "rd"
    refine ⟨a, x1, a5, a6, ns, kk + 5, mkRM M2 pr1, R0, _, rfl, (Same.trans ws w1).seq hS, by omega, by omega, hlenT, by show 0 + _ ≤ _; omega, rd1m, fun Hp R' kpp rdp hgo => ?_⟩
    have kF := Same.trans kF kpp
    have w1 := Same.trans w1 kpp
    have wp := w1.trans (hide_same _ _)
    walk_at "rd"
    refine i_ixt (v := .ref k3) (.of (wp _ _ wk)) (show atI _ ((2 : Nat) : Int) = _ from atI_nat rfl) ?_
    refine i_ninL (.of (wp _ _ wg)) rfl (flat_nums _) ?_
    rw [inV_nums, ← hst]
    walk_at "rd"
    by_cases hgd : (K39.T.node tg wd ks).st M2 ∈ M2.good
    · refine iF (by rw [decide_eq_true hgd]; rfl) ?_
      have hall : passS (mkRM M2 pr1) R0 (K39.T.node tg wd ks).text = (K39.T.node tg wd ks).text.length := runs_pass _ _ _ _ (good_runs hM2 rd1.prs htok hgd)
      have hgo' := hgo hall
      have hwh : R'.whole = true := by
        rw [(go_tree _ R0 R' htok rfl rfl hgo').1]
        rfl
      rw [hall]
      walk_at "rd"
      refine i_lens (by omega) ?_
      walk_at "rd"
      refine iF (by simp) ?_
      walk_at "rd"
      refine ⟨a, x1, a5, a6, ns, mkRM M2 pr1, R', rfl, (Same.trans ws w1).seq hS, hwh, rdp, fun Hq kpq => ?_⟩
      have kF := Same.trans kF kpq
      have w1 := Same.trans w1 kpq
      have wq := w1.trans (hide_same _ _)
      refine i_k ?_
      refine iteF ?_
      walk_at "rd"
      refine ⟨kt, M2, _, rfl, wm.mono wq, hM2, hlenT, fun pr hpr => ⟨_, good_runs (M := mkRM M2 pr) hM2 hpr htok hgd⟩, fun Hb sb => ?_⟩
      have kF := (kF.trans (hide_same _ _)).trans sb
      have wb := wq.trans sb
      refine i_k ?_
      refine iteF ?_
      walk_at "rd"
      refine ⟨r2, t2, rfl, wt2.mono wb, htok2, by omega, by omega, fun Ht st' => ?_⟩
      have kF := kF.trans st'
      have wt' := wb.trans st'
      have hx2' := same_none s13 hx2
      have g5' := same_none s13 g5
      have g6' := same_none s13 g6
      have w2 : Same (hide (c1 :: c2 :: c3 :: cs) H12) (own3 x2 b5 b6 Ht) := same_own wt' (wn hx2') (wn g5') (wn g6')
      have hlenT2 : t2.text.length ≤ 50000 := by
        have := text_len t2 htok2
        omega
      walk_at "rd"
      refine ⟨a, x2, b5, b6, ns, kk + 6, mkRM M2 pr2, R0, _, rfl, (Same.trans ws w2).seq hS, by omega, by omega, hlenT2, by show 0 + _ ≤ _; omega, rd2.mono kF, fun Hz R2 kpz rdz _ => ?_⟩
      have wz := (Same.trans w2 kpz).trans (hide_same _ _)
      walk_at "rd"
      refine ⟨r1, .node tg wd ks, rfl, wt.mono wz, htok, by omega, by omega, fun Hy sy => ?_⟩
      walk_at "rd"
      refine ⟨_, _, rfl, hlenT2, hlenT, ?_⟩
      walk_at "rd"
      have hps := pass_same t2.text (K39.T.node tg wd ks).text R0 (runs_pass _ _ _ _ (good_runs (M := mkRM M2 pr2) hM2 rd2.prs htok hgd))
      rw [decide_eq_true (show ((same t2.text (K39.T.node tg wd ks).text : Nat) : Int) ≤ ((passS (mkRM M2 pr2) R0 t2.text : Nat) : Int) by omega)]
      exact q _
    · refine iT (by rw [decide_eq_false hgd]; rfl) ?_
      have hlt : passS (mkRM M2 pr1) R0 (K39.T.node tg wd ks).text < (K39.T.node tg wd ks).text.length := by
        have h1 := passS_le (M := mkRM M2 pr1) (K39.T.node tg wd ks).text R0
        by_cases e : passS (mkRM M2 pr1) R0 (K39.T.node tg wd ks).text = (K39.T.node tg wd ks).text.length
        · exact absurd (go_good htok (hgo e)) hgd
        · omega
      walk_at "rd"
      refine i_chain ?_
      walk_at "rd"
      refine iT (decide_eq_true (by omega)) ?_
      walk_at "rd"
      refine i_lens (by omega) ?_
      walk_at "rd"
      rw [decide_eq_true (by omega)]
      exact q _
end
/-! ## 44. The end -/
section
variable {P : Program} {w : World} {K : PySem.W.Frag} {mg : Str → Option Value} {base : Heap} {C : Addr}
theorem text_all {f : Addr} {fd : FuncData} (F : Fun K "_law_text" "_law_text" sText f fd) (T : Txt K mg C) (b : Binds K fd ["_law_tree_here"] []) (m : mg "_law_text" = some (.ref f)) : ∀ n : Nat, FnOk P w K mg base CX0 n f fd ["_law_tree_here"] (spText n)
  | 0 => by
    have no : ∀ vs H Q E, ¬ spText 0 vs H Q E := fun vs H Q E h => by
      obtain ⟨r, t, _, _, _, h, _⟩ := h
      have := nodes_pos t
      omega
    exact ⟨fun vs H Q E h => absurd h (no vs H Q E), fun A outer s H args us vs Q E _ _ _ _ h => absurd h (no vs H Q E)⟩
  | n + 1 => ok_text F T ⟨f, fd, text_all F T b m n, m, F.kp, b⟩
theorem state_all {f : Addr} {fd : FuncData} (F : Fun K "_law_state" "_law_state" sState f fd) (b : Binds K fd ["_law_starts", "_law_steps", "_law_tree_here"] []) (m : mg "_law_state" = some (.ref f)) : ∀ n : Nat, FnOk P w K mg base CX0 n f fd ["_law_starts", "_law_steps", "_law_tree_here"] (spState n)
  | 0 => by
    have no : ∀ vs H Q E, ¬ spState 0 vs H Q E := fun vs H Q E h => by
      obtain ⟨d, a, r, M, t, _, _, _, _, _, _, h, _⟩ := h
      have := nodes_pos t
      omega
    exact ⟨fun vs H Q E h => absurd h (no vs H Q E), fun A outer s H args us vs Q E _ _ _ _ h => absurd h (no vs H Q E)⟩
  | n + 1 => ok_state F ⟨f, fd, state_all F b m n, m, F.kp, b⟩
end
theorem all_mk {l : PySem.W.OpenLaw} {w : World} {K : PySem.W.Frag} {h : Heap} {mg : Str → Option Value} {fa C CN f1 f2 f3 f4 f5 f6 f7 f8 f9 f10 f11 f12 f13 f14 f15 f16 f17 f18 f19 f20 f21 f22 f23 f24 f25 f26 f27 f28 f29 f30 f31 : Addr} {tL tW tM : Tok} (X : K.In h) (G : h.Ns mainGlobals mg) (hfa : mg "law" = some (.ref fa))
    {od1 an1 od2 an2 od3 an3 od4 an4 od5 an5 od6 an6 od7 an7 od8 an8 od9 an9 od10 an10 od11 an11 od12 an12 od13 an13 od14 an14 od15 an15 od16 an16 od17 an17 od18 an18 od19 an19 od20 an20 od21 an21 od22 an22 od23 an23 od24 an24 od25 an25 od26 an26 od27 an27 od28 an28 od29 an29 od30 an30 od31 an31 : Option Addr} {sl1 sl2 sl3 sl4 sl5 sl6 sl7 sl8 sl9 sl10 sl11 sl12 sl13 sl14 sl15 sl16 sl17 sl18 sl19 sl20 sl21 sl22 sl23 sl24 sl25 sl26 sl27 sl28 sl29 sl30 sl31 : Array (Option Value)} {oc1 kV1 dc1 pm1 cd1 ct1 oc2 kV2 dc2 pm2 cd2 ct2 oc3 kV3 dc3 pm3 cd3 ct3 oc4 kV4 dc4 pm4 cd4 ct4 oc5 kV5 dc5 pm5 cd5 ct5 oc6 kV6 dc6 pm6 cd6 ct6 oc7 kV7 dc7 pm7 cd7 ct7 oc8 kV8 dc8 pm8 cd8 ct8 oc9 kV9 dc9 pm9 cd9 ct9 oc10 kV10 dc10 pm10 cd10 ct10 oc11 kV11 dc11 pm11 cd11 ct11 oc12 kV12 dc12 pm12 cd12 ct12 oc13 kV13 dc13 pm13 cd13 ct13 oc14 kV14 dc14 pm14 cd14 ct14 oc15 kV15 dc15 pm15 cd15 ct15 oc16 kV16 dc16 pm16 cd16 ct16 oc17 kV17 dc17 pm17 cd17 ct17 oc18 kV18 dc18 pm18 cd18 ct18 oc19 kV19 dc19 pm19 cd19 ct19 oc20 kV20 dc20 pm20 cd20 ct20 oc21 kV21 dc21 pm21 cd21 ct21 oc22 kV22 dc22 pm22 cd22 ct22 oc23 kV23 dc23 pm23 cd23 ct23 oc24 kV24 dc24 pm24 cd24 ct24 oc25 kV25 dc25 pm25 cd25 ct25 oc26 kV26 dc26 pm26 cd26 ct26 oc27 kV27 dc27 pm27 cd27 ct27 oc28 kV28 dc28 pm28 cd28 ct28 oc29 kV29 dc29 pm29 cd29 ct29 oc30 kV30 dc30 pm30 cd30 ct30 oc31 kV31 dc31 pm31 cd31 ct31 : Value}
    (aC : PySem.W.nsIn K mainGlobals "Reader" = some (some (.ref C))) (aN : PySem.W.nsIn K mainGlobals "NoSign" = some (some (.ref CN)))
    (a1 : PySem.W.nsIn K mainGlobals "_law_draw" = some (some (.ref f1))) (l1 : K.lookup f1 = some ⟨oc1, od1, .func (PySem.W.fnOf "_law_draw" "_law_draw" (defArgs sDraw) (defBody sDraw) (defScope sDraw) .none kV1 dc1 pm1 an1 cd1 ct1), sl1⟩) (c1 : PySem.W.codeIn K cd1 "_law_draw" = true) (k1 : PySem.W.keepIn K (.ref f1) = true)
    (a2 : PySem.W.nsIn K mainGlobals "_law_label" = some (some (.ref f2))) (l2 : K.lookup f2 = some ⟨oc2, od2, .func (PySem.W.fnOf "_law_label" "_law_label" (defArgs sLabel) (defBody sLabel) (defScope sLabel) .none kV2 dc2 pm2 an2 cd2 ct2), sl2⟩) (c2 : PySem.W.codeIn K cd2 "_law_label" = true) (k2 : PySem.W.keepIn K (.ref f2) = true)
    (a3 : PySem.W.nsIn K mainGlobals "_law_sign" = some (some (.ref f3))) (l3 : K.lookup f3 = some ⟨oc3, od3, .func (PySem.W.fnOf "_law_sign" "_law_sign" (defArgs sSign) (defBody sSign) (defScope sSign) .none kV3 dc3 pm3 an3 cd3 ct3), sl3⟩) (c3 : PySem.W.codeIn K cd3 "_law_sign" = true) (k3 : PySem.W.keepIn K (.ref f3) = true)
    (a4 : PySem.W.nsIn K mainGlobals "_law_labels" = some (some (.ref f4))) (l4 : K.lookup f4 = some ⟨oc4, od4, .func (PySem.W.fnOf "_law_labels" "_law_labels" (defArgs sLabels) (defBody sLabels) (defScope sLabels) .none kV4 dc4 pm4 an4 cd4 ct4), sl4⟩) (c4 : PySem.W.codeIn K cd4 "_law_labels" = true) (k4 : PySem.W.keepIn K (.ref f4) = true)
    (a5 : PySem.W.nsIn K mainGlobals "_law_word" = some (some (.ref f5))) (l5 : K.lookup f5 = some ⟨oc5, od5, .func (PySem.W.fnOf "_law_word" "_law_word" (defArgs sWord) (defBody sWord) (defScope sWord) .none kV5 dc5 pm5 an5 cd5 ct5), sl5⟩) (c5 : PySem.W.codeIn K cd5 "_law_word" = true) (k5 : PySem.W.keepIn K (.ref f5) = true)
    (a6 : PySem.W.nsIn K mainGlobals "_law_text" = some (some (.ref f6))) (l6 : K.lookup f6 = some ⟨oc6, od6, .func (PySem.W.fnOf "_law_text" "_law_text" (defArgs sText) (defBody sText) (defScope sText) .none kV6 dc6 pm6 an6 cd6 ct6), sl6⟩) (c6 : PySem.W.codeIn K cd6 "_law_text" = true) (k6 : PySem.W.keepIn K (.ref f6) = true)
    (a7 : PySem.W.nsIn K mainGlobals "_law_state" = some (some (.ref f7))) (l7 : K.lookup f7 = some ⟨oc7, od7, .func (PySem.W.fnOf "_law_state" "_law_state" (defArgs sState) (defBody sState) (defScope sState) .none kV7 dc7 pm7 an7 cd7 ct7), sl7⟩) (c7 : PySem.W.codeIn K cd7 "_law_state" = true) (k7 : PySem.W.keepIn K (.ref f7) = true)
    (a8 : PySem.W.nsIn K mainGlobals "_law_tree" = some (some (.ref f8))) (l8 : K.lookup f8 = some ⟨oc8, od8, .func (PySem.W.fnOf "_law_tree" "_law_tree" (defArgs sTree) (defBody sTree) (defScope sTree) .none kV8 dc8 pm8 an8 cd8 ct8), sl8⟩) (c8 : PySem.W.codeIn K cd8 "_law_tree" = true) (k8 : PySem.W.keepIn K (.ref f8) = true)
    (a9 : PySem.W.nsIn K mainGlobals "_law_machine" = some (some (.ref f9))) (l9 : K.lookup f9 = some ⟨oc9, od9, .func (PySem.W.fnOf "_law_machine" "_law_machine" (defArgs sMachine) (defBody sMachine) (defScope sMachine) .none kV9 dc9 pm9 an9 cd9 ct9), sl9⟩) (c9 : PySem.W.codeIn K cd9 "_law_machine" = true) (k9 : PySem.W.keepIn K (.ref f9) = true)
    (a10 : PySem.W.nsIn K mainGlobals "price_of_start" = some (some (.ref f10))) (l10 : K.lookup f10 = some ⟨oc10, od10, .func (PySem.W.fnOf "price_of_start" "price_of_start" (defArgs sPos) (defBody sPos) (defScope sPos) .none kV10 dc10 pm10 an10 cd10 ct10), sl10⟩) (c10 : PySem.W.codeIn K cd10 "price_of_start" = true) (k10 : PySem.W.keepIn K (.ref f10) = true)
    (a11 : PySem.W.nsIn K mainGlobals "started_prices" = some (some (.ref f11))) (l11 : K.lookup f11 = some ⟨oc11, od11, .func (PySem.W.fnOf "started_prices" "started_prices" (defArgs sStarted) (defBody sStarted) (defScope sStarted) .none kV11 dc11 pm11 an11 cd11 ct11), sl11⟩) (c11 : PySem.W.codeIn K cd11 "started_prices" = true) (k11 : PySem.W.keepIn K (.ref f11) = true)
    (a12 : PySem.W.nsIn K mainGlobals "prices_fall" = some (some (.ref f12))) (l12 : K.lookup f12 = some ⟨oc12, od12, .func (PySem.W.fnOf "prices_fall" "prices_fall" (defArgs sFall) (defBody sFall) (defScope sFall) .none kV12 dc12 pm12 an12 cd12 ct12), sl12⟩) (c12 : PySem.W.codeIn K cd12 "prices_fall" = true) (k12 : PySem.W.keepIn K (.ref f12) = true)
    (a13 : PySem.W.nsIn K mainGlobals "priced" = some (some (.ref f13))) (l13 : K.lookup f13 = some ⟨oc13, od13, .func (PySem.W.fnOf "priced" "priced" (defArgs sPriced) (defBody sPriced) (defScope sPriced) .none kV13 dc13 pm13 an13 cd13 ct13), sl13⟩) (c13 : PySem.W.codeIn K cd13 "priced" = true) (k13 : PySem.W.keepIn K (.ref f13) = true)
    (a14 : PySem.W.nsIn K mainGlobals "prices_of" = some (some (.ref f14))) (l14 : K.lookup f14 = some ⟨oc14, od14, .func (PySem.W.fnOf "prices_of" "prices_of" (defArgs sPof) (defBody sPof) (defScope sPof) .none kV14 dc14 pm14 an14 cd14 ct14), sl14⟩) (c14 : PySem.W.codeIn K cd14 "prices_of" = true) (k14 : PySem.W.keepIn K (.ref f14) = true)
    (a15 : PySem.W.nsIn K mainGlobals "closing_costs" = some (some (.ref f15))) (l15 : K.lookup f15 = some ⟨oc15, od15, .func (PySem.W.fnOf "closing_costs" "closing_costs" (defArgs sClosing) (defBody sClosing) (defScope sClosing) .none kV15 dc15 pm15 an15 cd15 ct15), sl15⟩) (c15 : PySem.W.codeIn K cd15 "closing_costs" = true) (k15 : PySem.W.keepIn K (.ref f15) = true)
    (a16 : PySem.W.findIn K (.ref C) "inner_costs" = some (some (.ref f16))) (i16 : PySem.W.isFn K (.ref f16) = true) (l16 : K.lookup f16 = some ⟨oc16, od16, .func (PySem.W.fnOf "inner_costs" "Reader.inner_costs" (defArgs sInner) (defBody sInner) (defScope sInner) .none kV16 dc16 pm16 an16 cd16 ct16), sl16⟩) (c16 : PySem.W.codeIn K cd16 "Reader.inner_costs" = true) (k16 : PySem.W.keepIn K (.ref f16) = true)
    (a17 : PySem.W.findIn K (.ref C) "pile" = some (some (.ref f17))) (i17 : PySem.W.isFn K (.ref f17) = true) (l17 : K.lookup f17 = some ⟨oc17, od17, .func (PySem.W.fnOf "pile" "Reader.pile" (defArgs sPile) (defBody sPile) (defScope sPile) .none kV17 dc17 pm17 an17 cd17 ct17), sl17⟩) (c17 : PySem.W.codeIn K cd17 "Reader.pile" = true) (k17 : PySem.W.keepIn K (.ref f17) = true)
    (a18 : PySem.W.findIn K (.ref C) "closes" = some (some (.ref f18))) (i18 : PySem.W.isFn K (.ref f18) = true) (l18 : K.lookup f18 = some ⟨oc18, od18, .func (PySem.W.fnOf "closes" "Reader.closes" (defArgs sCloses) (defBody sCloses) (defScope sCloses) .none kV18 dc18 pm18 an18 cd18 ct18), sl18⟩) (c18 : PySem.W.codeIn K cd18 "Reader.closes" = true) (k18 : PySem.W.keepIn K (.ref f18) = true)
    (a19 : PySem.W.findIn K (.ref C) "cheapest" = some (some (.ref f19))) (i19 : PySem.W.isFn K (.ref f19) = true) (l19 : K.lookup f19 = some ⟨oc19, od19, .func (PySem.W.fnOf "cheapest" "Reader.cheapest" (defArgs sCheap) (defBody sCheap) (defScope sCheap) .none kV19 dc19 pm19 an19 cd19 ct19), sl19⟩) (c19 : PySem.W.codeIn K cd19 "Reader.cheapest" = true) (k19 : PySem.W.keepIn K (.ref f19) = true)
    (a20 : PySem.W.findIn K (.ref C) "left" = some (some (.ref f20))) (i20 : PySem.W.isFn K (.ref f20) = true) (l20 : K.lookup f20 = some ⟨oc20, od20, .func (PySem.W.fnOf "left" "Reader.left" (defArgs sLeft) (defBody sLeft) (defScope sLeft) .none kV20 dc20 pm20 an20 cd20 ct20), sl20⟩) (c20 : PySem.W.codeIn K cd20 "Reader.left" = true) (k20 : PySem.W.keepIn K (.ref f20) = true)
    (a21 : PySem.W.findIn K (.ref C) "hint" = some (some (.ref f21))) (i21 : PySem.W.isFn K (.ref f21) = true) (l21 : K.lookup f21 = some ⟨oc21, od21, .func (PySem.W.fnOf "hint" "Reader.hint" (defArgs sHint) (defBody sHint) (defScope sHint) .none kV21 dc21 pm21 an21 cd21 ct21), sl21⟩) (c21 : PySem.W.codeIn K cd21 "Reader.hint" = true) (k21 : PySem.W.keepIn K (.ref f21) = true)
    (a22 : PySem.W.findIn K (.ref C) "fits" = some (some (.ref f22))) (i22 : PySem.W.isFn K (.ref f22) = true) (l22 : K.lookup f22 = some ⟨oc22, od22, .func (PySem.W.fnOf "fits" "Reader.fits" (defArgs sFits) (defBody sFits) (defScope sFits) .none kV22 dc22 pm22 an22 cd22 ct22), sl22⟩) (c22 : PySem.W.codeIn K cd22 "Reader.fits" = true) (k22 : PySem.W.keepIn K (.ref f22) = true)
    (a23 : PySem.W.findIn K (.ref C) "take" = some (some (.ref f23))) (i23 : PySem.W.isFn K (.ref f23) = true) (l23 : K.lookup f23 = some ⟨oc23, od23, .func (PySem.W.fnOf "take" "Reader.take" (defArgs sTake) (defBody sTake) (defScope sTake) .none kV23 dc23 pm23 an23 cd23 ct23), sl23⟩) (c23 : PySem.W.codeIn K cd23 "Reader.take" = true) (k23 : PySem.W.keepIn K (.ref f23) = true)
    (a24 : PySem.W.findIn K (.ref C) "__init__" = some (some (.ref f24))) (i24 : PySem.W.isFn K (.ref f24) = true) (l24 : K.lookup f24 = some ⟨oc24, od24, .func (PySem.W.fnOf "__init__" "Reader.__init__" (defArgs sInit) (defBody sInit) (defScope sInit) .none kV24 dc24 pm24 an24 cd24 ct24), sl24⟩) (c24 : PySem.W.codeIn K cd24 "Reader.__init__" = true) (k24 : PySem.W.keepIn K (.ref f24) = true)
    (a25 : PySem.W.nsIn K mainGlobals "_law_refused" = some (some (.ref f25))) (l25 : K.lookup f25 = some ⟨oc25, od25, .func (PySem.W.fnOf "_law_refused" "_law_refused" (defArgs sRefused) (defBody sRefused) (defScope sRefused) .none kV25 dc25 pm25 an25 cd25 ct25), sl25⟩) (c25 : PySem.W.codeIn K cd25 "_law_refused" = true) (k25 : PySem.W.keepIn K (.ref f25) = true)
    (a26 : PySem.W.nsIn K mainGlobals "_law_stays" = some (some (.ref f26))) (l26 : K.lookup f26 = some ⟨oc26, od26, .func (PySem.W.fnOf "_law_stays" "_law_stays" (defArgs sStays) (defBody sStays) (defScope sStays) .none kV26 dc26 pm26 an26 cd26 ct26), sl26⟩) (c26 : PySem.W.codeIn K cd26 "_law_stays" = true) (k26 : PySem.W.keepIn K (.ref f26) = true)
    (a27 : PySem.W.nsIn K mainGlobals "_law_passes" = some (some (.ref f27))) (l27 : K.lookup f27 = some ⟨oc27, od27, .func (PySem.W.fnOf "_law_passes" "_law_passes" (defArgs sPasses) (defBody sPasses) (defScope sPasses) .none kV27 dc27 pm27 an27 cd27 ct27), sl27⟩) (c27 : PySem.W.codeIn K cd27 "_law_passes" = true) (k27 : PySem.W.keepIn K (.ref f27) = true)
    (a28 : PySem.W.nsIn K mainGlobals "_law_same_beginning" = some (some (.ref f28))) (l28 : K.lookup f28 = some ⟨oc28, od28, .func (PySem.W.fnOf "_law_same_beginning" "_law_same_beginning" (defArgs sSame) (defBody sSame) (defScope sSame) .none kV28 dc28 pm28 an28 cd28 ct28), sl28⟩) (c28 : PySem.W.codeIn K cd28 "_law_same_beginning" = true) (k28 : PySem.W.keepIn K (.ref f28) = true)
    (a29 : PySem.W.nsIn K mainGlobals "_law_at_end" = some (some (.ref f29))) (l29 : K.lookup f29 = some ⟨oc29, od29, .func (PySem.W.fnOf "_law_at_end" "_law_at_end" (defArgs sAtEnd) (defBody sAtEnd) (defScope sAtEnd) .none kV29 dc29 pm29 an29 cd29 ct29), sl29⟩) (c29 : PySem.W.codeIn K cd29 "_law_at_end" = true) (k29 : PySem.W.keepIn K (.ref f29) = true)
    (a30 : PySem.W.nsIn K mainGlobals "_law_left_bears" = some (some (.ref f30))) (l30 : K.lookup f30 = some ⟨oc30, od30, .func (PySem.W.fnOf "_law_left_bears" "_law_left_bears" (defArgs sBears) (defBody sBears) (defScope sBears) .none kV30 dc30 pm30 an30 cd30 ct30), sl30⟩) (c30 : PySem.W.codeIn K cd30 "_law_left_bears" = true) (k30 : PySem.W.keepIn K (.ref f30) = true)
    (a31 : PySem.W.nsIn K mainGlobals "law" = some (some (.ref f31))) (l31 : K.lookup f31 = some ⟨oc31, od31, .func (PySem.W.fnOf "law" "law" (defArgs sLaw) (defBody sLaw) (defScope sLaw) .none kV31 dc31 pm31 an31 cd31 ct31), sl31⟩) (c31 : PySem.W.codeIn K cd31 "law" = true) (k31 : PySem.W.keepIn K (.ref f31) = true)
    (pg : PySem.W.plainGet K C Str.empty = true) (hd : PySem.W.hasDictIn K C = true) (po : PySem.W.plainOver K C = true) (sa : PySem.W.findIn K (.ref C) "__setattr__" = some (some (.builtin "object.__setattr__"))) (mk : PySem.W.makesIn K C = true) (kc : PySem.W.keepIn K (.ref C) = true)
    (nStarts : PySem.W.findIn K (.ref C) "starts" = some none) (nSteps : PySem.W.findIn K (.ref C) "steps" = some none) (nGood : PySem.W.findIn K (.ref C) "good" = some none) (nPrices : PySem.W.findIn K (.ref C) "prices" = some none) (nStates : PySem.W.findIn K (.ref C) "states" = some none) (nCosts : PySem.W.findIn K (.ref C) "costs" = some none) (nInner : PySem.W.findIn K (.ref C) "inner" = some none) (nHead : PySem.W.findIn K (.ref C) "head" = some none) (nSigns : PySem.W.findIn K (.ref C) "signs" = some none) (nWhole : PySem.W.findIn K (.ref C) "whole" = some none)
    (zLen : PySem.W.nsIn K mainGlobals "len" = some none) (zRange : PySem.W.nsIn K mainGlobals "range" = some none) (zList : PySem.W.nsIn K mainGlobals "list" = some none) (zTuple : PySem.W.nsIn K mainGlobals "tuple" = some none) (zDict : PySem.W.nsIn K mainGlobals "dict" = some none) (zSorted : PySem.W.nsIn K mainGlobals "sorted" = some none) (zMax : PySem.W.nsIn K mainGlobals "max" = some none) (zMin : PySem.W.nsIn K mainGlobals "min" = some none)
    (gL : PySem.W.nsIn K mainGlobals "SMALL_LETTERS" = some (some (.str "abcdefghijklmnopqrstuvwxyz" tL))) (gW : PySem.W.nsIn K mainGlobals "SIGNS_OF_WORDS" = some (some (.str "abcdefghijklmnopqrstuvwxyz0123456789" tW))) (gM : PySem.W.nsIn K mainGlobals "MOST_WORD" = some (some (.int 60 tM)))
    (xF : PySem.W.excIn K CN [.type "ValueError", .type "Exception", .type "BaseException", .type "object"] "ValueError.__new__" = true) (kF : PySem.W.keepIn K (.ref CN) = true) (bF : PySem.W.subIn K (.ref CN) (.type "BaseException") = some true) (tF : PySem.W.typeIn K (.ref CN) = some (.type "type")) (hF : PySem.W.hasDictIn K CN = true) (sF : PySem.W.subIn K (.ref CN) (.ref CN) = some true) :
    ∃ fd : FuncData, (∀ (s : Shared) (v : Value), BindsTo s fd ⟨[v], []⟩ [("_law_script", v)]) ∧ ∀ base : Heap, K.In base → base.Ns mainGlobals mg → FnOk l.prog w K mg base CX0 11 fa fd ["_law_script"] (spLaw K) := by
  have e := hfa.symm.trans (PySem.W.mg_of X G a31)
  cases e
  have T : Txt K mg C := { len := PySem.W.mg_none_of X G zLen, range := PySem.W.mg_none_of X G zRange, list := PySem.W.mg_none_of X G zList, tuple := PySem.W.mg_none_of X G zTuple, dict := PySem.W.mg_none_of X G zDict, sorted := PySem.W.mg_none_of X G zSorted, max := PySem.W.mg_none_of X G zMax, min := PySem.W.mg_none_of X G zMin, gLow := ⟨_, PySem.W.mg_of X G gL, by rw [← sl_low]; exact ⟨_, rfl⟩⟩, gWord := ⟨_, PySem.W.mg_of X G gW, by rw [← sl_word]; exact ⟨_, rfl⟩⟩, gMost := ⟨_, PySem.W.mg_of X G gM, ⟨_, rfl⟩⟩, cl := ⟨pg, hd, po, sa⟩, nStarts := nStarts, nSteps := nSteps, nGood := nGood, nPrices := nPrices, nStates := nStates, nCosts := nCosts, nInner := nInner, nHead := nHead, nSigns := nSigns, nWhole := nWhole }
  have X0 : ExTxt K mg CN := ⟨PySem.W.mg_of X G aN, xF, kF, bF, tF, PySem.W.exm_ref bF hF tF sF⟩
  have F1 := fun_mk (st := sDraw) l1 c1 k1
  have b1 := F1.binds (ps := ["_law_script", "_law_k", "_law_many"]) fun _ _ _ _ _ _ us hl => match us, hl with | [_, _, _], _ => rfl
  have F2 := fun_mk (st := sLabel) l2 c2 k2
  have b2 := F2.binds (ps := ["_law_number"]) fun _ _ _ _ _ _ us hl => match us, hl with | [_], _ => rfl
  have F3 := fun_mk (st := sSign) l3 c3 k3
  have b3 := F3.binds (ps := ["_law_number"]) fun _ _ _ _ _ _ us hl => match us, hl with | [_], _ => rfl
  have F4 := fun_mk (st := sLabels) l4 c4 k4
  have b4 := F4.binds (ps := ["_law_script", "_law_k"]) fun _ _ _ _ _ _ us hl => match us, hl with | [_, _], _ => rfl
  have F5 := fun_mk (st := sWord) l5 c5 k5
  have b5 := F5.binds (ps := ["_law_number"]) fun _ _ _ _ _ _ us hl => match us, hl with | [_], _ => rfl
  have F6 := fun_mk (st := sText) l6 c6 k6
  have b6 := F6.binds (ps := ["_law_tree_here"]) fun _ _ _ _ _ _ us hl => match us, hl with | [_], _ => rfl
  have F7 := fun_mk (st := sState) l7 c7 k7
  have b7 := F7.binds (ps := ["_law_starts", "_law_steps", "_law_tree_here"]) fun _ _ _ _ _ _ us hl => match us, hl with | [_, _, _], _ => rfl
  have F8 := fun_mk (st := sTree) l8 c8 k8
  have b8 := F8.binds (ps := ["_law_script", "_law_k", "_law_many", "_law_labels_here"]) fun _ _ _ _ _ _ us hl => match us, hl with | [_, _, _, _], _ => rfl
  have F9 := fun_mk (st := sMachine) l9 c9 k9
  have b9 := F9.binds (ps := ["_law_script", "_law_k", "_law_size", "_law_labels_here"]) fun _ _ _ _ _ _ us hl => match us, hl with | [_, _, _, _], _ => rfl
  have F10 := fun_mk (st := sPos) l10 c10 k10
  have b10 := F10.binds (ps := ["label"]) fun _ _ _ _ _ _ us hl => match us, hl with | [_], _ => rfl
  have F11 := fun_mk (st := sStarted) l11 c11 k11
  have b11 := F11.binds (ps := ["machine"]) fun _ _ _ _ _ _ us hl => match us, hl with | [_], _ => rfl
  have F12 := fun_mk (st := sFall) l12 c12 k12
  have b12 := F12.binds (ps := ["steps", "prices", "hows"]) fun _ _ _ _ _ _ us hl => match us, hl with | [_, _, _], _ => rfl
  have F13 := fun_mk (st := sPriced) l13 c13 k13
  have b13 := F13.binds (ps := ["machine"]) fun _ _ _ _ _ _ us hl => match us, hl with | [_], _ => rfl
  have F14 := fun_mk (st := sPof) l14 c14 k14
  have b14 := F14.binds (ps := ["machine"]) fun _ _ _ _ _ _ us hl => match us, hl with | [_], _ => rfl
  have F15 := fun_mk (st := sClosing) l15 c15 k15
  have b15 := F15.binds (ps := ["steps", "prices", "closed"]) fun _ _ _ _ _ _ us hl => match us, hl with | [_, _, _], _ => rfl
  have F16 := fun_mk (st := sInner) l16 c16 k16
  have b16 := F16.binds (ps := ["self"]) fun _ _ _ _ _ _ us hl => match us, hl with | [_], _ => rfl
  have F17 := fun_mk (st := sPile) l17 c17 k17
  have b17 := F17.binds (ps := ["self"]) fun _ _ _ _ _ _ us hl => match us, hl with | [_], _ => rfl
  have F18 := fun_mk (st := sCloses) l18 c18 k18
  have b18 := F18.binds (ps := ["self"]) fun _ _ _ _ _ _ us hl => match us, hl with | [_], _ => rfl
  have F19 := fun_mk (st := sCheap) l19 c19 k19
  have b19 := F19.binds (ps := ["self", "head"]) fun _ _ _ _ _ _ us hl => match us, hl with | [_, _], _ => rfl
  have F20 := fun_mk (st := sLeft) l20 c20 k20
  have b20 := F20.binds (ps := ["self"]) fun _ _ _ _ _ _ us hl => match us, hl with | [_], _ => rfl
  have F21 := fun_mk (st := sHint) l21 c21 k21
  have b21 := F21.binds (ps := ["self"]) fun _ _ _ _ _ _ us hl => match us, hl with | [_], _ => rfl
  have F22 := fun_mk (st := sFits) l22 c22 k22
  have b22 := F22.binds (ps := ["self", "sign"]) fun _ _ _ _ _ _ us hl => match us, hl with | [_, _], _ => rfl
  have F23 := fun_mk (st := sTake) l23 c23 k23
  have b23 := F23.binds (ps := ["self", "sign"]) fun _ _ _ _ _ _ us hl => match us, hl with | [_, _], _ => rfl
  have F24 := fun_mk (st := sInit) l24 c24 k24
  have b24 := F24.binds (ps := ["self", "machine"]) fun _ _ _ _ _ _ us hl => match us, hl with | [_, _], _ => rfl
  have F25 := fun_mk (st := sRefused) l25 c25 k25
  have b25 := F25.binds (ps := ["_law_reader", "_law_sign_here"]) fun _ _ _ _ _ _ us hl => match us, hl with | [_, _], _ => rfl
  have F26 := fun_mk (st := sStays) l26 c26 k26
  have b26 := F26.binds (ps := ["_law_reader", "_law_sign_here"]) fun _ _ _ _ _ _ us hl => match us, hl with | [_, _], _ => rfl
  have F27 := fun_mk (st := sPasses) l27 c27 k27
  have b27 := F27.binds (ps := ["_law_script", "_law_k", "_law_reader", "_law_line"]) fun _ _ _ _ _ _ us hl => match us, hl with | [_, _, _, _], _ => rfl
  have F28 := fun_mk (st := sSame) l28 c28 k28
  have b28 := F28.binds (ps := ["_law_one", "_law_other"]) fun _ _ _ _ _ _ us hl => match us, hl with | [_, _], _ => rfl
  have F29 := fun_mk (st := sAtEnd) l29 c29 k29
  have b29 := F29.binds (ps := ["_law_reader", "_law_script"]) fun _ _ _ _ _ _ us hl => match us, hl with | [_, _], _ => rfl
  have F30 := fun_mk (st := sBears) l30 c30 k30
  have b30 := F30.binds (ps := ["_law_machine_here", "_law_line"]) fun _ _ _ _ _ _ us hl => match us, hl with | [_, _], _ => rfl
  have F31 := fun_mk (st := sLaw) l31 c31 k31
  have b31 := F31.binds (ps := ["_law_script"]) fun _ _ _ _ _ _ us hl => match us, hl with | [_], _ => rfl
  refine ⟨PySem.W.fnOf "law" "law" (defArgs sLaw) (defBody sLaw) (defScope sLaw) .none kV31 dc31 pm31 an31 cd31 ct31, fun s v => .of_eq rfl, fun base _ _ => ?_⟩
  have cal_draw : Cal l.prog w K mg base CX0 "_law_draw" 1 ["_law_script", "_law_k", "_law_many"] (spDraw K) := ⟨⟨f1, _, ok_draw F1 T, PySem.W.mg_of X G a1, k1, b1⟩⟩
  have cal_label : Cal l.prog w K mg base CX0 "_law_label" 1 ["_law_number"] spLabel := ⟨⟨f2, _, ok_label F2 T, PySem.W.mg_of X G a2, k2, b2⟩⟩
  have cal_sign : Cal l.prog w K mg base CX0 "_law_sign" 1 ["_law_number"] spSign := ⟨⟨f3, _, ok_sign F3 T, PySem.W.mg_of X G a3, k3, b3⟩⟩
  have cal_labels : Cal l.prog w K mg base CX0 "_law_labels" 2 ["_law_script", "_law_k"] (spLabels K) := ⟨⟨f4, _, ok_labels F4 T cal_draw cal_label, PySem.W.mg_of X G a4, k4, b4⟩⟩
  have cal_word : Cal l.prog w K mg base CX0 "_law_word" 1 ["_law_number"] spWord := ⟨⟨f5, _, ok_word F5 T, PySem.W.mg_of X G a5, k5, b5⟩⟩
  have cal_text : Cal l.prog w K mg base CX0 "_law_text" 10 ["_law_tree_here"] (spText 10) := ⟨⟨f6, _, text_all F6 T b6 (PySem.W.mg_of X G a6) 10, PySem.W.mg_of X G a6, k6, b6⟩⟩
  have cal_state : Cal l.prog w K mg base CX0 "_law_state" 10 ["_law_starts", "_law_steps", "_law_tree_here"] (spState 10) := ⟨⟨f7, _, state_all F7 b7 (PySem.W.mg_of X G a7) 10, PySem.W.mg_of X G a7, k7, b7⟩⟩
  have cal_tree : Cal l.prog w K mg base CX0 "_law_tree" 2 ["_law_script", "_law_k", "_law_many", "_law_labels_here"] (spTree K) := ⟨⟨f8, _, ok_tree F8 T cal_draw cal_word, PySem.W.mg_of X G a8, k8, b8⟩⟩
  have cal_machine : Cal l.prog w K mg base CX0 "_law_machine" 2 ["_law_script", "_law_k", "_law_size", "_law_labels_here"] (spMachine K) := ⟨⟨f9, _, ok_machine F9 T cal_draw, PySem.W.mg_of X G a9, k9, b9⟩⟩
  have cal_price_of_start : Cal l.prog w K mg base CX0 "price_of_start" 1 ["label"] spPos := ⟨⟨f10, _, ok_pos F10 T, PySem.W.mg_of X G a10, k10, b10⟩⟩
  have cal_started_prices : Cal l.prog w K mg base CX0 "started_prices" 2 ["machine"] spStarted := ⟨⟨f11, _, ok_started F11 cal_price_of_start, PySem.W.mg_of X G a11, k11, b11⟩⟩
  have cal_prices_fall : Cal l.prog w K mg base CX0 "prices_fall" 1 ["steps", "prices", "hows"] spFall := ⟨⟨f12, _, ok_fall F12 T, PySem.W.mg_of X G a12, k12, b12⟩⟩
  have cal_priced : Cal l.prog w K mg base CX0 "priced" 3 ["machine"] spPriced := ⟨⟨f13, _, ok_priced F13 cal_started_prices cal_prices_fall, PySem.W.mg_of X G a13, k13, b13⟩⟩
  have cal_prices_of : Cal l.prog w K mg base CX0 "prices_of" 4 ["machine"] spPof := ⟨⟨f14, _, ok_pof F14 cal_priced, PySem.W.mg_of X G a14, k14, b14⟩⟩
  have cal_closing_costs : Cal l.prog w K mg base CX0 "closing_costs" 1 ["steps", "prices", "closed"] spClosing := ⟨⟨f15, _, ok_closing F15 T, PySem.W.mg_of X G a15, k15, b15⟩⟩
  have cal_inner_costs : CalM l.prog w K mg base CX0 C "inner_costs" 2 ["self"] (spInner C) := ⟨⟨f16, _, ok_inner F16 T cal_closing_costs, ⟨a16, i16, k16⟩, b16⟩, T.cl⟩
  have cal_pile : CalM l.prog w K mg base CX0 C "pile" 1 ["self"] (spPile C) := ⟨⟨f17, _, ok_pile F17 T, ⟨a17, i17, k17⟩, b17⟩, T.cl⟩
  have cal_closes : CalM l.prog w K mg base CX0 C "closes" 1 ["self"] (spCloses C) := ⟨⟨f18, _, ok_closes F18 T, ⟨a18, i18, k18⟩, b18⟩, T.cl⟩
  have cal_cheapest : CalM l.prog w K mg base CX0 C "cheapest" 3 ["self", "head"] (spCheap C) := ⟨⟨f19, _, ok_cheap F19 T cal_inner_costs, ⟨a19, i19, k19⟩, b19⟩, T.cl⟩
  have cal_left : CalM l.prog w K mg base CX0 C "left" 4 ["self"] (spLeft C) := ⟨⟨f20, _, ok_left F20 T cal_cheapest, ⟨a20, i20, k20⟩, b20⟩, T.cl⟩
  have cal_hint : CalM l.prog w K mg base CX0 C "hint" 5 ["self"] (spHint C) := ⟨⟨f21, _, ok_hint F21 T cal_left, ⟨a21, i21, k21⟩, b21⟩, T.cl⟩
  have cal_fits : CalM l.prog w K mg base CX0 C "fits" 4 ["self", "sign"] (spFits C) := ⟨⟨f22, _, ok_fits F22 T cal_inner_costs cal_cheapest cal_closes, ⟨a22, i22, k22⟩, b22⟩, T.cl⟩
  have cal_take : CalM l.prog w K mg base (L2.CX l.prog w) C "take" 5 ["self", "sign"] (spTake C CN) := ⟨⟨f23, _, ok_take F23 T X0 cal_inner_costs cal_fits, ⟨a23, i23, k23⟩, b23⟩, T.cl⟩
  have cal_Reader : CalN l.prog w K mg base C := ⟨⟨f24, _, ⟨mk, a24, i24, kc⟩, ok_init F24 T cal_prices_of, b24⟩, PySem.W.mg_of X G aC⟩
  have cal_refused : Cal l.prog w K mg base CX0 "_law_refused" 6 ["_law_reader", "_law_sign_here"] (spRefused C) := ⟨⟨f25, _, ok_refused F25 X0 cal_take, PySem.W.mg_of X G a25, k25, b25⟩⟩
  have cal_stays : Cal l.prog w K mg base CX0 "_law_stays" 7 ["_law_reader", "_law_sign_here"] (spStays C) := ⟨⟨f26, _, ok_stays F26 T cal_left cal_pile cal_refused, PySem.W.mg_of X G a26, k26, b26⟩⟩
  have cal_passes : Cal l.prog w K mg base CX0 "_law_passes" 8 ["_law_script", "_law_k", "_law_reader", "_law_line"] (spPasses K C) := ⟨⟨f27, _, ok_passes F27 T cal_draw cal_sign cal_fits cal_stays cal_take, PySem.W.mg_of X G a27, k27, b27⟩⟩
  have cal_same_beginning : Cal l.prog w K mg base CX0 "_law_same_beginning" 1 ["_law_one", "_law_other"] spSame := ⟨⟨f28, _, ok_same F28 T, PySem.W.mg_of X G a28, k28, b28⟩⟩
  have cal_at_end : Cal l.prog w K mg base CX0 "_law_at_end" 7 ["_law_reader", "_law_script"] (spAtEnd K C) := ⟨⟨f29, _, ok_atend F29 T cal_draw cal_sign cal_left cal_pile cal_hint cal_fits cal_refused, PySem.W.mg_of X G a29, k29, b29⟩⟩
  have cal_left_bears : Cal l.prog w K mg base CX0 "_law_left_bears" 7 ["_law_machine_here", "_law_line"] spBears := ⟨⟨f30, _, ok_bears F30 T cal_Reader cal_left cal_take, PySem.W.mg_of X G a30, k30, b30⟩⟩
  exact ok_law F31 T cal_labels cal_draw cal_machine cal_tree cal_state cal_text cal_Reader cal_passes cal_at_end cal_left_bears cal_same_beginning
theorem walk {l : PySem.W.OpenLaw} {q : Program} {loose : List Str} {XP : (Str → Option Value) → Heap → Prop} {YP : World → Heap → Prop} {d : DefRec} {K : Params → PySem.W.Frag} (hn : l.most = some 63) (hdf : d.params.defaults = [])
    (hY : ∀ (w : World) (h : Heap), YP w h → (K w.params).In h)
    (F : ∀ (w : World) (mg : Str → Option Value) (fa : Addr) (h : Heap), (K w.params).In h → h.Ns mainGlobals mg → mg d.name = some (.ref fa) →
      ∃ fd : FuncData, (∀ (s : Shared) (u : Value), BindsTo s fd ⟨[u], []⟩ [("_law_script", u)]) ∧ ∀ base : Heap, (K w.params).In base → base.Ns mainGlobals mg → FnOk l.prog w (K w.params) mg base CX0 11 fa fd ["_law_script"] (spLaw (K w.params))) :
    PySem.W.WalkO q loose XP YP l.row.toRowW d [] (fun f vs => PySem.call f vs) :=
  L2.walk_of (n := 63) (k := 11) (x := "_law_script") (CX := fun _ => CX0) (sp := fun w => spLaw (K w.params)) hn (by decide) hdf ⟨rfl, by decide, by decide⟩ hY F (fun _ _ a ns _ _ hS => ⟨a, ns, rfl, hS, fun _ => rfl⟩) fun _ _ _ _ _ z => z
end K39
open PySem PySem.W PyProof.Rows in
set_option maxRecDepth 100000 in
set_option maxHeartbeats 0 in
theorem PySem.Challenge.cw_warden_k39_admitted_texts_pass_holds : PySem.Challenge.rw_warden_k39_admitted_texts_pass.Holds := by
  w_on; o_law; k_head; (case hw => w_witness2)
  k_fill
  refine K39.walk (l := PySem.Challenge.rw_warden_k39_admitted_texts_pass) rfl rfl (fun w h Y => PySem.W.kIn_of Y) ?F
  case F =>
    intro w mg fa h KX G hmg
    refine' K39.all_mk KX G hmg ?aC ?aN ?a1 ?l1 ?c1 ?k1 ?a2 ?l2 ?c2 ?k2 ?a3 ?l3 ?c3 ?k3 ?a4 ?l4 ?c4 ?k4 ?a5 ?l5 ?c5 ?k5 ?a6 ?l6 ?c6 ?k6 ?a7 ?l7 ?c7 ?k7 ?a8 ?l8 ?c8 ?k8 ?a9 ?l9 ?c9 ?k9 ?a10 ?l10 ?c10 ?k10 ?a11 ?l11 ?c11 ?k11 ?a12 ?l12 ?c12 ?k12 ?a13 ?l13 ?c13 ?k13 ?a14 ?l14 ?c14 ?k14 ?a15 ?l15 ?c15 ?k15 ?a16 ?i16 ?l16 ?c16 ?k16 ?a17 ?i17 ?l17 ?c17 ?k17 ?a18 ?i18 ?l18 ?c18 ?k18 ?a19 ?i19 ?l19 ?c19 ?k19 ?a20 ?i20 ?l20 ?c20 ?k20 ?a21 ?i21 ?l21 ?c21 ?k21 ?a22 ?i22 ?l22 ?c22 ?k22 ?a23 ?i23 ?l23 ?c23 ?k23 ?a24 ?i24 ?l24 ?c24 ?k24 ?a25 ?l25 ?c25 ?k25 ?a26 ?l26 ?c26 ?k26 ?a27 ?l27 ?c27 ?k27 ?a28 ?l28 ?c28 ?k28 ?a29 ?l29 ?c29 ?k29 ?a30 ?l30 ?c30 ?k30 ?a31 ?l31 ?c31 ?k31 ?pg ?hd ?po ?sa ?mk ?kc ?nStarts ?nSteps ?nGood ?nPrices ?nStates ?nCosts ?nInner ?nHead ?nSigns ?nWhole ?zLen ?zRange ?zList ?zTuple ?zDict ?zSorted ?zMax ?zMin ?gL ?gW ?gM ?xF ?kF ?bF ?tF ?hF ?sF
    (case aC => k_is)
    (case aN => k_is)
    (case a1 => k_is)
    (case l1 => k_is)
    (case c1 => k_is)
    (case k1 => k_is)
    (case a2 => k_is)
    (case l2 => k_is)
    (case c2 => k_is)
    (case k2 => k_is)
    (case a3 => k_is)
    (case l3 => k_is)
    (case c3 => k_is)
    (case k3 => k_is)
    (case a4 => k_is)
    (case l4 => k_is)
    (case c4 => k_is)
    (case k4 => k_is)
    (case a5 => k_is)
    (case l5 => k_is)
    (case c5 => k_is)
    (case k5 => k_is)
    (case a6 => k_is)
    (case l6 => k_is)
    (case c6 => k_is)
    (case k6 => k_is)
    (case a7 => k_is)
    (case l7 => k_is)
    (case c7 => k_is)
    (case k7 => k_is)
    (case a8 => k_is)
    (case l8 => k_is)
    (case c8 => k_is)
    (case k8 => k_is)
    (case a9 => k_is)
    (case l9 => k_is)
    (case c9 => k_is)
    (case k9 => k_is)
    (case a10 => k_is)
    (case l10 => k_is)
    (case c10 => k_is)
    (case k10 => k_is)
    (case a11 => k_is)
    (case l11 => k_is)
    (case c11 => k_is)
    (case k11 => k_is)
    (case a12 => k_is)
    (case l12 => k_is)
    (case c12 => k_is)
    (case k12 => k_is)
    (case a13 => k_is)
    (case l13 => k_is)
    (case c13 => k_is)
    (case k13 => k_is)
    (case a14 => k_is)
    (case l14 => k_is)
    (case c14 => k_is)
    (case k14 => k_is)
    (case a15 => k_is)
    (case l15 => k_is)
    (case c15 => k_is)
    (case k15 => k_is)
    (case a16 => k_is)
    (case i16 => k_is)
    (case l16 => k_is)
    (case c16 => k_is)
    (case k16 => k_is)
    (case a17 => k_is)
    (case i17 => k_is)
    (case l17 => k_is)
    (case c17 => k_is)
    (case k17 => k_is)
    (case a18 => k_is)
    (case i18 => k_is)
    (case l18 => k_is)
    (case c18 => k_is)
    (case k18 => k_is)
    (case a19 => k_is)
    (case i19 => k_is)
    (case l19 => k_is)
    (case c19 => k_is)
    (case k19 => k_is)
    (case a20 => k_is)
    (case i20 => k_is)
    (case l20 => k_is)
    (case c20 => k_is)
    (case k20 => k_is)
    (case a21 => k_is)
    (case i21 => k_is)
    (case l21 => k_is)
    (case c21 => k_is)
    (case k21 => k_is)
    (case a22 => k_is)
    (case i22 => k_is)
    (case l22 => k_is)
    (case c22 => k_is)
    (case k22 => k_is)
    (case a23 => k_is)
    (case i23 => k_is)
    (case l23 => k_is)
    (case c23 => k_is)
    (case k23 => k_is)
    (case a24 => k_is)
    (case i24 => k_is)
    (case l24 => k_is)
    (case c24 => k_is)
    (case k24 => k_is)
    (case a25 => k_is)
    (case l25 => k_is)
    (case c25 => k_is)
    (case k25 => k_is)
    (case a26 => k_is)
    (case l26 => k_is)
    (case c26 => k_is)
    (case k26 => k_is)
    (case a27 => k_is)
    (case l27 => k_is)
    (case c27 => k_is)
    (case k27 => k_is)
    (case a28 => k_is)
    (case l28 => k_is)
    (case c28 => k_is)
    (case k28 => k_is)
    (case a29 => k_is)
    (case l29 => k_is)
    (case c29 => k_is)
    (case k29 => k_is)
    (case a30 => k_is)
    (case l30 => k_is)
    (case c30 => k_is)
    (case k30 => k_is)
    (case a31 => k_is)
    (case l31 => k_is)
    (case c31 => k_is)
    (case k31 => k_is)
    (case pg => k_is)
    (case hd => k_is)
    (case po => k_is)
    (case sa => k_is)
    (case mk => k_is)
    (case kc => k_is)
    (case nStarts => k_is)
    (case nSteps => k_is)
    (case nGood => k_is)
    (case nPrices => k_is)
    (case nStates => k_is)
    (case nCosts => k_is)
    (case nInner => k_is)
    (case nHead => k_is)
    (case nSigns => k_is)
    (case nWhole => k_is)
    (case zLen => k_is)
    (case zRange => k_is)
    (case zList => k_is)
    (case zTuple => k_is)
    (case zDict => k_is)
    (case zSorted => k_is)
    (case zMax => k_is)
    (case zMin => k_is)
    (case gL => k_is)
    (case gW => k_is)
    (case gM => k_is)
    (case xF => k_exc)
    (case kF => k_is)
    (case bF => k_is)
    (case tF => k_is)
    (case hF => k_is)
    (case sF => first | rfl | k_is)
