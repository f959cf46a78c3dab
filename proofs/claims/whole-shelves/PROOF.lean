import PyProof.Rows.All
import Wide.All
import OpenK.AllK
import Wide.FinOn
import HandS.ForMost
import HandS.Conv
import HandS.SetFor
import HandS.TupLen
import HandS.Walk
import KE.SortData
import KE.KDictCopyH
import KE.KDictDisplayH
import KE.GoesEnum
import HandS.Zip
import PySem.Challenge.RW_restlesshelf_k01_whole_shelves
import HandS.AnyAll
import HandS.EndTab
import HandS.IsInst
import PyProof.GenCompD
import HandS.Nested
import HandS.TupAny
set_option Elab.async false
set_option linter.all false
/-! K01: the plain law: two breadth-first searches agree, the least words, the way back. No program in sight. -/
namespace K01
/-! ### lists -/
theorem nodup_sub_len {α : Type} [DecidableEq α] : ∀ {a b : List α}, a.Nodup → (∀ x ∈ a, x ∈ b) → a.length ≤ b.length
  | [], _, _, _ => Nat.zero_le _
  | x :: r, b, h, s => by
    obtain ⟨h1, h2⟩ := List.nodup_cons.mp h
    have hx : x ∈ b := s x List.mem_cons_self
    have ih := nodup_sub_len (a := r) (b := b.erase x) h2 fun y hy => by
      have hne : y ≠ x := fun e => h1 (e ▸ hy)
      exact (List.mem_erase_of_ne hne).mpr (s y (List.mem_cons_of_mem _ hy))
    have hl := List.length_erase_of_mem hx
    have hp : 0 < b.length := List.length_pos_of_mem hx
    rw [List.length_cons]
    omega
theorem nodup_sub_eq {α : Type} [DecidableEq α] {a b : List α} (ha : a.Nodup) (s : ∀ x ∈ a, x ∈ b) (hl : b.length ≤ a.length) : ∀ x ∈ b, x ∈ a := by
  intro x hx
  by_cases h : x ∈ a
  · exact h
  · have h1 : (x :: a).Nodup := List.nodup_cons.mpr ⟨h, ha⟩
    have h2 := nodup_sub_len h1 (b := b) fun y hy => by
      rcases List.mem_cons.mp hy with e | e
      · rw [e]; exact hx
      · exact s y e
    rw [List.length_cons] at h2
    omega
theorem nodup_map_on {α β : Type} {f : α → β} : ∀ {l : List α}, l.Nodup → (∀ x ∈ l, ∀ y ∈ l, f x = f y → x = y) → (l.map f).Nodup
  | [], _, _ => List.nodup_nil
  | x :: r, h, hi => by
    obtain ⟨h1, h2⟩ := List.nodup_cons.mp h
    rw [List.map_cons]
    refine List.nodup_cons.mpr ⟨fun m => ?_, nodup_map_on h2 fun a ha b hb => hi a (List.mem_cons_of_mem _ ha) b (List.mem_cons_of_mem _ hb)⟩
    obtain ⟨y, hy, e⟩ := List.mem_map.mp m
    have := hi y (List.mem_cons_of_mem _ hy) x List.mem_cons_self e
    exact h1 (this ▸ hy)

/-! ### the search, over any states -/
section
variable {α : Type} [DecidableEq α] (f : α → Nat → α) (k : Nat)
abbrev PW (α : Type) := List (α × List Int)
def ins (acc : PW α) (x : α × List Int) : PW α := if x.1 ∈ acc.map (·.1) then acc else acc ++ [x]
def succs (t : α × List Int) : PW α := (List.range k).map fun (p : Nat) => (f t.1 p, t.2 ++ [(p : Int)])
def cands (E : PW α) : PW α := E.flatMap (succs f k)
/-- those that are new, the first of each key -/
def fresh : List α → PW α → PW α
  | _, [] => []
  | seen, c :: cs => if c.1 ∈ seen then fresh seen cs else c :: fresh (seen ++ [c.1]) cs
theorem foldl_ins (cs : PW α) : ∀ acc : PW α, cs.foldl ins acc = acc ++ fresh (acc.map (·.1)) cs := by
  induction cs with
  | nil => intro acc; simp [fresh]
  | cons c cs ih =>
    intro acc
    rw [List.foldl_cons, ih, fresh]
    unfold ins
    by_cases h : c.1 ∈ acc.map (·.1)
    · rw [if_pos h, if_pos h]
    · rw [if_neg h, if_neg h, List.map_append, List.append_assoc]
      rfl
theorem mem_fresh {cs : PW α} : ∀ {seen : List α} {x : α × List Int}, x ∈ fresh seen cs → x ∈ cs ∧ x.1 ∉ seen := by
  induction cs with
  | nil => intro seen x h; simp [fresh] at h
  | cons c cs ih =>
    intro seen x h
    rw [fresh] at h
    by_cases hc : c.1 ∈ seen
    · rw [if_pos hc] at h
      obtain ⟨a, b⟩ := ih h
      exact ⟨List.mem_cons_of_mem _ a, b⟩
    · rw [if_neg hc] at h
      rcases List.mem_cons.mp h with e | e
      · rw [e]; exact ⟨List.mem_cons_self, hc⟩
      · obtain ⟨a, b⟩ := ih e
        exact ⟨List.mem_cons_of_mem _ a, fun z => b (List.mem_append_left _ z)⟩
theorem fresh_nodup {cs : PW α} : ∀ {seen : List α}, ((fresh seen cs).map (·.1)).Nodup := by
  induction cs with
  | nil => intro seen; simp [fresh]
  | cons c cs ih =>
    intro seen
    rw [fresh]
    by_cases hc : c.1 ∈ seen
    · rw [if_pos hc]; exact ih
    · rw [if_neg hc, List.map_cons]
      refine List.nodup_cons.mpr ⟨fun m => ?_, ih⟩
      obtain ⟨y, hy, e⟩ := List.mem_map.mp m
      exact (mem_fresh hy).2 (by rw [e]; simp)
/-- each key is seen or new -/
theorem fresh_all {cs : PW α} : ∀ {seen : List α} {x : α}, x ∈ cs.map (·.1) → x ∈ seen ∨ x ∈ (fresh seen cs).map (·.1) := by
  induction cs with
  | nil => intro seen x h; simp at h
  | cons c cs ih =>
    intro seen x h
    rw [fresh]
    rw [List.map_cons] at h
    by_cases hc : c.1 ∈ seen
    · rw [if_pos hc]
      rcases List.mem_cons.mp h with e | e
      · left; rw [e]; exact hc
      · exact ih e
    · rw [if_neg hc, List.map_cons]
      rcases List.mem_cons.mp h with e | e
      · right; rw [e]; exact List.mem_cons_self
      · rcases ih (seen := seen ++ [c.1]) e with q | q
        · rcases List.mem_append.mp q with q | q
          · exact .inl q
          · right; rw [List.mem_singleton.mp q]; exact List.mem_cons_self
        · exact .inr (List.mem_cons_of_mem _ q)
theorem fresh_filter {S : List α} (cs : PW α) : ∀ {a b : List α}, (∀ x, x ∉ S → (x ∈ a ↔ x ∈ b)) → (fresh a cs).filter (fun t => decide (t.1 ∉ S)) = (fresh b cs).filter (fun t => decide (t.1 ∉ S)) := by
  induction cs with
  | nil => intro a b h; rfl
  | cons c cs ih =>
    intro a b h
    by_cases hs : c.1 ∈ S
    · have e : ∀ s : List α, (fresh s (c :: cs)).filter (fun t => decide (t.1 ∉ S)) = (fresh (if c.1 ∈ s then s else s ++ [c.1]) cs).filter (fun t => decide (t.1 ∉ S)) := fun s => by
        rw [fresh]
        by_cases q : c.1 ∈ s
        · rw [if_pos q, if_pos q]
        · rw [if_neg q, if_neg q, List.filter_cons, if_neg (by simp [hs])]
      rw [e, e]
      refine ih fun x hx => ?_
      have ne : x ≠ c.1 := fun z => hx (z ▸ hs)
      have g : ∀ s : List α, x ∈ (if c.1 ∈ s then s else s ++ [c.1]) ↔ x ∈ s := fun s => by
        by_cases q : c.1 ∈ s
        · rw [if_pos q]
        · rw [if_neg q, List.mem_append, List.mem_singleton]
          exact ⟨fun z => z.resolve_right ne, .inl⟩
      rw [g, g]
      exact h x hx
    · rw [fresh, fresh]
      by_cases q : c.1 ∈ a
      · rw [if_pos q, if_pos ((h _ hs).mp q)]
        exact ih h
      · rw [if_neg q, if_neg (fun z => q ((h _ hs).mpr z)), List.filter_cons, if_pos (by simp [hs]), List.filter_cons, if_pos (by simp [hs])]
        congr 1
        refine ih fun x hx => ?_
        rw [List.mem_append, List.mem_append, h x hx]
theorem fresh_self {S : List α} {cs : PW α} : (fresh S cs).filter (fun t => decide (t.1 ∉ S)) = fresh S cs :=
  List.filter_eq_self.mpr fun t ht => decide_eq_true (mem_fresh ht).2
theorem fresh_skip {S : List α} (cs : PW α) : ∀ {seen : List α}, (∀ x ∈ S, x ∈ seen) → fresh seen cs = fresh seen (cs.filter fun t => decide (t.1 ∉ S)) := by
  induction cs with
  | nil => intro seen h; rfl
  | cons c cs ih =>
    intro seen h
    by_cases hs : c.1 ∈ S
    · rw [List.filter_cons, if_neg (by simp [hs]), fresh, if_pos (h _ hs)]
      exact ih h
    · rw [List.filter_cons, if_pos (by simp [hs]), fresh, fresh]
      by_cases q : c.1 ∈ seen
      · rw [if_pos q, if_pos q]; exact ih h
      · rw [if_neg q, if_neg q, ih fun x hx => List.mem_append_left _ (h x hx)]
theorem flatMap_only {β γ : Type} {g : β → List γ} {q : β → Bool} : ∀ {l : List β}, (∀ t ∈ l, q t = false → g t = []) → l.flatMap g = (l.filter q).flatMap g
  | [], _ => rfl
  | t :: r, h => by
    have ih := flatMap_only (l := r) fun x hx => h x (List.mem_cons_of_mem _ hx)
    rw [List.flatMap_cons, List.filter_cons]
    cases e : q t with
    | true => rw [if_pos rfl, List.flatMap_cons, ih]
    | false => rw [if_neg Bool.false_ne_true, h t List.mem_cons_self e, List.nil_append, ih]
theorem filter_flatMap' {β γ : Type} {g : β → List γ} {q : γ → Bool} : ∀ {l : List β}, (l.flatMap g).filter q = l.flatMap fun t => (g t).filter q
  | [] => rfl
  | t :: r => by rw [List.flatMap_cons, List.filter_append, List.flatMap_cons, filter_flatMap']

/-- m rounds: all that is found, what the last round found -/
def st (L : α) : Nat → PW α × PW α
  | 0 => ([(L, [])], [(L, [])])
  | m + 1 => ((cands f k (st L m).2).foldl ins (st L m).1, fresh ((st L m).1.map (·.1)) (cands f k (st L m).2))
/-- the exact words of m touches, the first one to each state -/
def ex (L : α) : Nat → PW α
  | 0 => [(L, [])]
  | m + 1 => (cands f k (ex L m)).foldl ins []
variable {f k} {L : α}
theorem st_succ (m : Nat) : (st f k L (m + 1)).1 = (st f k L m).1 ++ (st f k L (m + 1)).2 := foldl_ins _ _
theorem mem_cands {E : PW α} {t : α × List Int} : t ∈ cands f k E ↔ ∃ s ∈ E, ∃ p, p < k ∧ t = (f s.1 p, s.2 ++ [(p : Int)]) := by
  unfold cands succs
  rw [List.mem_flatMap]
  constructor
  · rintro ⟨s, hs, h⟩
    obtain ⟨p, hp, e⟩ := List.mem_map.mp h
    exact ⟨s, hs, p, List.mem_range.mp hp, e.symm⟩
  · rintro ⟨s, hs, p, hp, e⟩
    exact ⟨s, hs, List.mem_map.mpr ⟨p, List.mem_range.mpr hp, e.symm⟩⟩
theorem st_nodup : ∀ m, ((st f k L m).1.map (·.1)).Nodup
  | 0 => by simp [st]
  | m + 1 => by
    rw [st_succ, List.map_append]
    refine List.nodup_append.mpr ⟨st_nodup m, fresh_nodup, fun x hx y hy e => ?_⟩
    obtain ⟨t, ht, et⟩ := List.mem_map.mp hy
    exact (mem_fresh ht).2 (by rw [et, ← e]; exact hx)
theorem st_lay_sub : ∀ m, ∀ t ∈ (st f k L m).2, t ∈ (st f k L m).1
  | 0, t, h => h
  | m + 1, t, h => by rw [st_succ]; exact List.mem_append_right _ h
theorem st_start : ∀ m, (L, ([] : List Int)) ∈ (st f k L m).1
  | 0 => by simp [st]
  | m + 1 => by rw [st_succ]; exact List.mem_append_left _ (st_start m)
theorem st_ind {P : α → Prop} (h0 : P L) (hs : ∀ x p, P x → p < k → P (f x p)) : ∀ m, ∀ t ∈ (st f k L m).1, P t.1
  | 0, t, h => by
    have e : t = (L, []) := by simpa [st] using h
    rw [e]; exact h0
  | m + 1, t, h => by
    rw [st_succ] at h
    rcases List.mem_append.mp h with h | h
    · exact st_ind h0 hs m t h
    · obtain ⟨s, hs', p, hp, e⟩ := mem_cands.mp (mem_fresh h).1
      rw [e]
      exact hs _ _ (st_ind h0 hs m s (st_lay_sub m s hs')) hp
theorem st_word : ∀ m, ∀ t ∈ (st f k L m).2, t.2.length = m
  | 0, t, h => by
    have e : t = (L, []) := by simpa [st] using h
    rw [e]; rfl
  | m + 1, t, h => by
    obtain ⟨s, hs', p, hp, e⟩ := mem_cands.mp (mem_fresh h).1
    rw [e, List.length_append, st_word m s hs']
    rfl
/-- a word's numbers are places -/
theorem st_word_lt : ∀ m, ∀ t ∈ (st f k L m).1, ∀ z ∈ t.2, 0 ≤ z ∧ z < (k : Int)
  | 0, t, h => by
    have e : t = (L, []) := by simpa [st] using h
    rw [e]; simp
  | m + 1, t, h => by
    rw [st_succ] at h
    rcases List.mem_append.mp h with h | h
    · exact st_word_lt m t h
    · obtain ⟨s, hs', p, hp, e⟩ := mem_cands.mp (mem_fresh h).1
      rw [e]
      intro z hz
      rcases List.mem_append.mp hz with hz | hz
      · exact st_word_lt m s (st_lay_sub m s hs') z hz
      · rw [List.mem_singleton.mp hz]
        omega
theorem st_layer : ∀ m, ∀ t ∈ (st f k L m).1, ∃ j, j ≤ m ∧ t ∈ (st f k L j).2
  | 0, t, h => ⟨0, Nat.le_refl _, h⟩
  | m + 1, t, h => by
    rw [st_succ] at h
    rcases List.mem_append.mp h with h | h
    · obtain ⟨j, hj, e⟩ := st_layer m t h
      exact ⟨j, Nat.le_succ_of_le hj, e⟩
    · exact ⟨m + 1, Nat.le_refl _, h⟩
theorem st_len_le {m : Nat} {t : α × List Int} (h : t ∈ (st f k L m).1) : t.2.length ≤ m := by
  obtain ⟨j, hj, e⟩ := st_layer m t h
  rw [st_word j t e]
  exact hj
/-- the last round's are those whose word is as long as there were rounds -/
theorem st_last (m : Nat) : (st f k L m).1.filter (fun t => decide (t.2.length = m)) = (st f k L m).2 := by
  cases m with
  | zero => rfl
  | succ m =>
    rw [st_succ, List.filter_append]
    have e1 : (st f k L m).1.filter (fun t => decide (t.2.length = m + 1)) = [] := List.filter_eq_nil_iff.mpr fun t ht q => by
      have := st_len_le ht
      have q2 := of_decide_eq_true q
      omega
    have e2 : (st f k L (m + 1)).2.filter (fun t => decide (t.2.length = m + 1)) = (st f k L (m + 1)).2 := List.filter_eq_self.mpr fun t ht => decide_eq_true (st_word (m + 1) t ht)
    rw [e1, e2, List.nil_append]
theorem st_next {m p : Nat} {s : α} (hs : s ∈ (st f k L m).1.map (·.1)) (hp : p < k) : f s p ∈ (st f k L (m + 1)).1.map (·.1) := by
  have lay : ∀ (m : Nat) (t : α × List Int), t ∈ (st f k L m).2 → f t.1 p ∈ (st f k L (m + 1)).1.map (·.1) := fun m t ht => by
    have h1 : f t.1 p ∈ (cands f k (st f k L m).2).map (·.1) := List.mem_map.mpr ⟨(f t.1 p, t.2 ++ [(p : Int)]), mem_cands.mpr ⟨t, ht, p, hp, rfl⟩, rfl⟩
    rw [st_succ, List.map_append]
    exact List.mem_append.mpr (fresh_all h1)
  induction m with
  | zero =>
    obtain ⟨t, ht, e⟩ := List.mem_map.mp hs
    rw [← e]
    exact lay 0 t ht
  | succ m ih =>
    rw [st_succ, List.map_append] at hs
    rcases List.mem_append.mp hs with h | h
    · rw [st_succ (m + 1), List.map_append]
      exact List.mem_append_left _ (ih h)
    · obtain ⟨t, ht, e⟩ := List.mem_map.mp h
      rw [← e]
      exact lay (m + 1) t ht
theorem ex_sub : ∀ m, ∀ t ∈ ex f k L m, t.1 ∈ (st f k L m).1.map (·.1)
  | 0, t, h => List.mem_map.mpr ⟨t, h, rfl⟩
  | m + 1, t, h => by
    have h : t ∈ (cands f k (ex f k L m)).foldl ins [] := h
    rw [foldl_ins, List.nil_append] at h
    obtain ⟨s, hs, p, hp, e⟩ := mem_cands.mp (mem_fresh h).1
    rw [e]
    exact st_next (ex_sub m s hs) hp
theorem ex_nodup : ∀ m, ((ex f k L m).map (·.1)).Nodup
  | 0 => by simp [ex]
  | m + 1 => by
    show (((cands f k (ex f k L m)).foldl ins []).map (·.1)).Nodup
    rw [foldl_ins, List.nil_append]
    exact fresh_nodup
/-- those known ahead of the last round -/
def pre (L : α) : Nat → PW α
  | 0 => []
  | m + 1 => (st f k L m).1
/-- THE WORDS: of the words of m touches those that lead to something new are the last round's -/
theorem ex_lay : ∀ m, (ex f k L m).filter (fun t => decide (t.1 ∉ (pre (f := f) (k := k) L m).map (·.1))) = (st f k L m).2
  | 0 => by simp [ex, pre, st]
  | m + 1 => by
    have ih := ex_lay m
    show ((cands f k (ex f k L m)).foldl ins []).filter (fun t => decide (t.1 ∉ (st f k L m).1.map (·.1))) = fresh ((st f k L m).1.map (·.1)) (cands f k (st f k L m).2)
    rw [foldl_ins, List.nil_append]
    rw [fresh_filter (S := (st f k L m).1.map (·.1)) (a := ([] : PW α).map (·.1)) (b := (st f k L m).1.map (·.1)) _ (fun x hx => ⟨fun z => by simp at z, fun z => absurd z hx⟩), fresh_self]
    rw [fresh_skip (S := (st f k L m).1.map (·.1)) (cands f k (ex f k L m)) (fun x hx => hx), fresh_skip (S := (st f k L m).1.map (·.1)) (cands f k (st f k L m).2) (fun x hx => hx)]
    congr 1
    unfold cands
    rw [filter_flatMap', filter_flatMap', ← ih]
    refine flatMap_only fun t ht hq => ?_
    have hq : t.1 ∈ (pre (f := f) (k := k) L m).map (·.1) := by simpa using hq
    refine List.filter_eq_nil_iff.mpr fun y hy q => ?_
    obtain ⟨p, hp, e⟩ := List.mem_map.mp hy
    have hp := List.mem_range.mp hp
    refine of_decide_eq_true q ?_
    rw [← e]
    cases m with
    | zero => simp [pre] at hq
    | succ m => exact st_next (m := m) hq hp
theorem lay_ex {m : Nat} {t : α × List Int} (h : t ∈ (st f k L m).2) : t ∈ ex f k L m := by
  rw [← ex_lay m] at h
  exact (List.mem_filter.mp h).1
/-- the word that was found is the one that the exact words tell -/
theorem word_ex {m : Nat} {t : α × List Int} (h : t ∈ (st f k L m).1) : t ∈ ex f k L t.2.length := by
  obtain ⟨j, _, e⟩ := st_layer m t h
  rw [st_word j t e]
  exact lay_ex e

/-! ### the end of the search -/
theorem st_stop {m : Nat} (h : (st f k L m).2 = []) : ∀ j, st f k L (m + j) = ((st f k L m).1, [])
  | 0 => by rw [Nat.add_zero, ← h]
  | j + 1 => by
    have ih := st_stop h j
    show ((cands f k (st f k L (m + j)).2).foldl ins (st f k L (m + j)).1, fresh ((st f k L (m + j)).1.map (·.1)) (cands f k (st f k L (m + j)).2)) = _
    rw [ih]
    simp [cands, fresh]
theorem st_grows {m : Nat} (h : ∀ j ≤ m, (st f k L j).2 ≠ []) : m + 1 ≤ (st f k L m).1.length := by
  induction m with
  | zero => simp [st]
  | succ m ih =>
    have h1 := ih fun j hj => h j (Nat.le_succ_of_le hj)
    have h2 := List.length_pos_iff.mpr (h (m + 1) (Nat.le_refl _))
    rw [st_succ, List.length_append]
    omega
/-- all that can be found, B a bound of their number -/
def bfs (f : α → Nat → α) (k B : Nat) (L : α) : PW α := (st f k L B).1
theorem bfs_of {B m : Nat} (hm : m ≤ B) (h : (st f k L m).2 = []) : (st f k L m).1 = bfs f k B L := by
  obtain ⟨j, rfl⟩ := Nat.exists_eq_add_of_le hm
  unfold bfs
  rw [st_stop h j]
/-- U: a list that holds all that may be found -/
theorem bfs_end {B : Nat} {U : List α} (hU : U.length ≤ B) (hin : ∀ m, ∀ t ∈ (st f k L m).1, t.1 ∈ U) : (st f k L B).2 = [] := by
  by_cases h : ∀ j ≤ B, (st f k L j).2 ≠ []
  · have h1 := st_grows h
    have h2 := nodup_sub_len (st_nodup (f := f) (k := k) (L := L) B) (b := U) fun x hx => by
      obtain ⟨t, ht, e⟩ := List.mem_map.mp hx
      rw [← e]
      exact hin B t ht
    rw [List.length_map] at h2
    omega
  · have h' : ∃ j, j ≤ B ∧ (st f k L j).2 = [] := Classical.byContradiction fun q => h fun j hj e => q ⟨j, hj, e⟩
    obtain ⟨j, hj, e⟩ := h'
    obtain ⟨i, rfl⟩ := Nat.exists_eq_add_of_le hj
    rw [st_stop e i]
/-- rounds that all found something are fewer than the bound -/
theorem rounds_le {B m : Nat} {U : List α} (hU : U.length ≤ B) (hin : ∀ m, ∀ t ∈ (st f k L m).1, t.1 ∈ U) (h : ∀ j ≤ m, (st f k L j).2 ≠ []) : m + 1 ≤ B := by
  have h1 := st_grows h
  have h2 := nodup_sub_len (st_nodup (f := f) (k := k) (L := L) m) (b := U) fun x hx => by
    obtain ⟨t, ht, e⟩ := List.mem_map.mp hx
    rw [← e]
    exact hin m t ht
  rw [List.length_map] at h2
  omega
theorem bfs_closed {B : Nat} (he : (st f k L B).2 = []) {s : α} {p : Nat} (hs : s ∈ (bfs f k B L).map (·.1)) (hp : p < k) : f s p ∈ (bfs f k B L).map (·.1) := by
  have h := st_next (m := B) hs hp
  have e := st_stop he 1
  rw [e] at h
  exact h
/-- THE WAY BACK: where every touch is one to one, what can be come to comes back -/
theorem way_back {B : Nat} {o : α} {V : α → Prop} (hV : ∀ x p, V x → p < k → V (f x p)) (hi : ∀ x y p, V x → V y → p < k → f x p = f y p → x = y) (hL : V L)
    (he : (st f k o B).2 = []) (ho : o ∈ (bfs f k B L).map (·.1)) : L ∈ (bfs f k B o).map (·.1) := by
  have vo : V o := by
    obtain ⟨t, ht, e⟩ := List.mem_map.mp ho
    rw [← e]
    exact st_ind (P := V) hL hV B t ht
  have nd : ((bfs f k B o).map (·.1)).Nodup := st_nodup B
  have vS : ∀ x ∈ (bfs f k B o).map (·.1), V x := fun x hx => by
    obtain ⟨t, ht, e⟩ := List.mem_map.mp hx
    rw [← e]
    exact st_ind (P := V) vo hV B t ht
  by_cases h : L ∈ (bfs f k B o).map (·.1)
  · exact h
  · have out : ∀ x p, (V x ∧ x ∉ (bfs f k B o).map (·.1)) → p < k → (V (f x p) ∧ f x p ∉ (bfs f k B o).map (·.1)) := fun x p hx hp => by
      refine ⟨hV x p hx.1 hp, fun hm => hx.2 ?_⟩
      have sub : ∀ y ∈ ((bfs f k B o).map (·.1)).map (fun z => f z p), y ∈ (bfs f k B o).map (·.1) := fun y hy => by
        obtain ⟨z, hz, e⟩ := List.mem_map.mp hy
        rw [← e]
        exact bfs_closed he hz hp
      have nd2 : (((bfs f k B o).map (·.1)).map (fun z => f z p)).Nodup := nodup_map_on nd fun a ha b hb e => hi a b p (vS a ha) (vS b hb) hp e
      have back := nodup_sub_eq nd2 sub (by simp) _ hm
      obtain ⟨y, hy, e⟩ := List.mem_map.mp back
      rw [← hi y x p (vS y hy) hx.1 hp e]
      exact hy
    have all := st_ind (f := f) (k := k) (L := L) (P := fun x => V x ∧ x ∉ (bfs f k B o).map (·.1)) ⟨hL, h⟩ out B
    obtain ⟨t, ht, e⟩ := List.mem_map.mp ho
    refine absurd ?_ (all t ht).2
    rw [e]
    exact List.mem_map.mpr ⟨(o, []), st_start B, rfl⟩
end

/-! ### layouts -/
abbrev Lay := List Int
structure IsPerm (n : Nat) (L : Lay) : Prop where
  len : L.length = n
  rng : ∀ x ∈ L, 0 ≤ x ∧ x < (n : Int)
  nd : L.Nodup
def touch (h : List Lay) (L : Lay) (p : Nat) : Lay := L.map fun s => (h.getD p []).getD s.toNat 0
structure IsHab (n : Nat) (h : List Lay) : Prop where
  len : h.length = n
  row : ∀ r ∈ h, IsPerm n r
theorem IsHab.at {n : Nat} {h : List Lay} (H : IsHab n h) {p : Nat} (hp : p < n) : IsPerm n (h.getD p []) := by
  have hl : p < h.length := by rw [H.len]; exact hp
  rw [List.getD_eq_getElem?_getD, List.getElem?_eq_getElem hl]
  exact H.row _ (List.getElem_mem hl)
theorem IsPerm.getD_inj {n : Nat} {r : Lay} (R : IsPerm n r) {a b : Int} (ha : 0 ≤ a ∧ a < (n : Int)) (hb : 0 ≤ b ∧ b < (n : Int)) (e : r.getD a.toNat 0 = r.getD b.toNat 0) : a = b := by
  have la : a.toNat < r.length := by rw [R.len]; omega
  have lb : b.toNat < r.length := by rw [R.len]; omega
  rw [List.getD_eq_getElem?_getD, List.getD_eq_getElem?_getD, List.getElem?_eq_getElem la, List.getElem?_eq_getElem lb] at e
  have e2 : a.toNat = b.toNat := (List.getElem_inj R.nd).mp e
  omega
theorem IsPerm.getD_rng {n : Nat} {r : Lay} (R : IsPerm n r) {a : Int} (ha : 0 ≤ a ∧ a < (n : Int)) : 0 ≤ r.getD a.toNat 0 ∧ r.getD a.toNat 0 < (n : Int) := by
  have la : a.toNat < r.length := by rw [R.len]; omega
  rw [List.getD_eq_getElem?_getD, List.getElem?_eq_getElem la]
  exact R.rng _ (List.getElem_mem la)
theorem touch_perm {n : Nat} {h : List Lay} (H : IsHab n h) {L : Lay} (hL : IsPerm n L) {p : Nat} (hp : p < n) : IsPerm n (touch h L p) := by
  have R := H.at hp
  refine ⟨by rw [touch, List.length_map, hL.len], fun x hx => ?_, nodup_map_on hL.nd fun a ha b hb e => R.getD_inj (hL.rng a ha) (hL.rng b hb) e⟩
  obtain ⟨s, hs, e⟩ := List.mem_map.mp hx
  rw [← e]
  exact R.getD_rng (hL.rng s hs)
theorem touch_inj {n : Nat} {h : List Lay} (H : IsHab n h) {L M : Lay} (hL : IsPerm n L) (hM : IsPerm n M) {p : Nat} (hp : p < n) (e : touch h L p = touch h M p) : L = M := by
  have R := H.at hp
  have go : ∀ (a b : Lay), (∀ x ∈ a, 0 ≤ x ∧ x < (n : Int)) → (∀ x ∈ b, 0 ≤ x ∧ x < (n : Int)) → a.map (fun s => (h.getD p []).getD s.toNat 0) = b.map (fun s => (h.getD p []).getD s.toNat 0) → a = b := by
    intro a
    induction a with
    | nil => intro b _ _ e; cases b with
      | nil => rfl
      | cons y b => simp at e
    | cons x a ih => intro b ha hb e; cases b with
      | nil => simp at e
      | cons y b =>
        rw [List.map_cons, List.map_cons] at e
        injection e with e1 e2
        rw [R.getD_inj (ha x List.mem_cons_self) (hb y List.mem_cons_self) e1, ih b (fun z hz => ha z (List.mem_cons_of_mem _ hz)) (fun z hz => hb z (List.mem_cons_of_mem _ hz)) e2]
  exact go L M hL.rng hM.rng e
/-- all lists of m numbers below n -/
def allL (n : Nat) : Nat → List Lay
  | 0 => [[]]
  | m + 1 => (allL n m).flatMap fun l => (List.range n).map fun (i : Nat) => (i : Int) :: l
theorem len_const {α β : Type} {g : α → List β} {c : Nat} : ∀ {l : List α}, (∀ x, (g x).length = c) → (l.flatMap g).length = l.length * c
  | [], _ => by simp
  | x :: r, h => by rw [List.flatMap_cons, List.length_append, h x, len_const h, List.length_cons, Nat.succ_mul, Nat.add_comm]
theorem allL_len (n : Nat) : ∀ m, (allL n m).length = n ^ m
  | 0 => rfl
  | m + 1 => by
    show ((allL n m).flatMap _).length = _
    rw [len_const (c := n) (fun l => by simp), allL_len n m, Nat.pow_succ]
theorem mem_allL {n : Nat} : ∀ {m : Nat} {L : Lay}, L.length = m → (∀ x ∈ L, 0 ≤ x ∧ x < (n : Int)) → L ∈ allL n m
  | 0, [], _, _ => by simp [allL]
  | m + 1, x :: L, hl, h => by
    show x :: L ∈ (allL n m).flatMap _
    refine List.mem_flatMap.mpr ⟨L, mem_allL (by simpa using hl) (fun y hy => h y (List.mem_cons_of_mem _ hy)), List.mem_map.mpr ⟨x.toNat, List.mem_range.mpr ?_, ?_⟩⟩
    · have := h x List.mem_cons_self
      omega
    · have := h x List.mem_cons_self
      rw [Int.toNat_of_nonneg this.1]
theorem allL_small {n : Nat} (hn : n ≤ 5) : (allL n n).length ≤ 3125 := by
  rw [allL_len]
  rcases (by omega : n = 0 ∨ n = 1 ∨ n = 2 ∨ n = 3 ∨ n = 4 ∨ n = 5) with e | e | e | e | e | e <;> subst e <;> decide
/-- the search on a shelf -/
abbrev stS (h : List Lay) (L : Lay) (m : Nat) : PW Lay × PW Lay := st (touch h) h.length L m
/-- 3125, told so that it is not unfolded by chance -/
def most (h : List Lay) : Nat := if h = h then 3125 else 0
theorem most_eq (h : List Lay) : most h = 3125 := if_pos rfl
def found (h : List Lay) (L : Lay) : PW Lay := bfs (touch h) h.length (most h) L
theorem found_eq (h : List Lay) (L : Lay) : found h L = (stS h L 3125).1 := by unfold found bfs; rw [most_eq]
theorem stS_perm {n : Nat} {h : List Lay} (H : IsHab n h) {L : Lay} (hL : IsPerm n L) (m : Nat) : ∀ t ∈ (stS h L m).1, IsPerm n t.1 :=
  st_ind (P := fun x => IsPerm n x) hL (fun x p hx hp => touch_perm H hx (by rw [← H.len]; exact hp)) m
theorem stS_in {n : Nat} {h : List Lay} (H : IsHab n h) {L : Lay} (hL : IsPerm n L) (m : Nat) : ∀ t ∈ (stS h L m).1, t.1 ∈ allL n n := fun t ht => by
  have P := stS_perm H hL m t ht
  exact mem_allL P.len P.rng
theorem stS_end {n : Nat} {h : List Lay} (H : IsHab n h) (hn : n ≤ 5) {L : Lay} (hL : IsPerm n L) : (stS h L 3125).2 = [] := bfs_end (allL_small hn) (stS_in H hL)
theorem stS_rounds {n : Nat} {h : List Lay} (H : IsHab n h) (hn : n ≤ 5) {L : Lay} (hL : IsPerm n L) {m : Nat} (hm : ∀ j ≤ m, (stS h L j).2 ≠ []) : m + 1 ≤ 3125 := rounds_le (allL_small hn) (stS_in H hL) hm
theorem stS_size {n : Nat} {h : List Lay} (H : IsHab n h) (hn : n ≤ 5) {L : Lay} (hL : IsPerm n L) (m : Nat) : (stS h L m).1.length ≤ 3125 := by
  have h2 := nodup_sub_len (st_nodup (f := touch h) (k := h.length) (L := L) m) (b := allL n n) fun x hx => by
    obtain ⟨t, ht, e⟩ := List.mem_map.mp hx
    rw [← e]
    exact stS_in H hL m t ht
  rw [List.length_map] at h2
  exact Nat.le_trans h2 (allL_small hn)
theorem found_of {n : Nat} {h : List Lay} (H : IsHab n h) (hn : n ≤ 5) {L : Lay} (hL : IsPerm n L) {m : Nat} (hm : ∀ j < m, (stS h L j).2 ≠ []) (he : (stS h L m).2 = []) : (stS h L m).1 = found h L := by
  rw [found_eq]
  refine bfs_of ?_ he
  cases m with
  | zero => omega
  | succ m => exact stS_rounds H hn hL (m := m) fun j hj => hm j (by omega)
theorem found_perm {n : Nat} {h : List Lay} (H : IsHab n h) {L : Lay} (hL : IsPerm n L) : ∀ t ∈ found h L, IsPerm n t.1 := by rw [found_eq]; exact stS_perm H hL 3125
theorem found_nodup {h : List Lay} {L : Lay} : ((found h L).map (·.1)).Nodup := by rw [found_eq]; exact st_nodup _
theorem found_back {n : Nat} {h : List Lay} (H : IsHab n h) (hn : n ≤ 5) {L o : Lay} (hL : IsPerm n L) (ho : o ∈ (found h L).map (·.1)) : L ∈ (found h o).map (·.1) := by
  have hp : IsPerm n o := by
    obtain ⟨t, ht, e⟩ := List.mem_map.mp ho
    rw [← e]
    exact found_perm H hL t ht
  rw [found_eq] at ho ⊢
  exact way_back (V := fun x => IsPerm n x) (fun x p hx q => touch_perm H hx (by rw [← H.len]; exact q)) (fun x y p hx hy q e => touch_inj H hx hy (by rw [← H.len]; exact q) e) hL (stS_end H hn hp) ho
theorem found_least {h : List Lay} {L : Lay} {t : Lay × List Int} (ht : t ∈ found h L) : t ∈ ex (touch h) h.length L t.2.length := by rw [found_eq] at ht; exact word_ex ht
/-- the one word of its key -/
theorem ex_only {h : List Lay} {L : Lay} {m : Nat} {t : Lay × List Int} (ht : t ∈ ex (touch h) h.length L m) : (ex (touch h) h.length L m).filter (fun s => decide (s.1 = t.1)) = [t] := by
  have nd := ex_nodup (f := touch h) (k := h.length) (L := L) m
  revert ht nd
  generalize ex (touch h) h.length L m = l
  intro ht nd
  induction l with
  | nil => simp at ht
  | cons s l ih =>
    rw [List.map_cons] at nd
    obtain ⟨n1, n2⟩ := List.nodup_cons.mp nd
    rw [List.filter_cons]
    rcases List.mem_cons.mp ht with e | e
    · subst e
      rw [if_pos (by simp)]
      congr 1
      refine List.filter_eq_nil_iff.mpr fun s hs q => n1 ?_
      rw [← of_decide_eq_true q]
      exact List.mem_map.mpr ⟨s, hs, rfl⟩
    · have ne : ¬ s.1 = t.1 := fun z => n1 (z ▸ List.mem_map.mpr ⟨t, e, rfl⟩)
      rw [if_neg (by simpa using ne)]
      exact ih e n2
end K01

set_option Elab.async false
set_option linter.all false
set_option maxRecDepth 100000
set_option maxHeartbeats 2000000
/-! K01: rules of our own over the layer: sorted of tuples of ints at any length (of a list, of a dict's keys), a display with one tuple key, the values of a dict with tuple keys, enumerate of a tuple, len(set(tuple)). -/
namespace K01
open PySem PySem.Spec PyProof.Rows L2

/-- the tuples of ints that stand at these addresses -/
abbrev TupsAt (H : Hp) (bs : List Addr) (ls : List (List Int)) : Prop := Paired (fun b l => H b = some (.tup (l.map V.int))) bs ls
def enc (l : List Int) : PyData := .tuple (l.map .int)
def srt (ls : List (List Int)) : List (List Int) := ls.mergeSort (PySem.W.dataLe false enc)
theorem srt_perm (ls : List (List Int)) : (srt ls).Perm ls := List.mergeSort_perm _ _
theorem srt_len (ls : List (List Int)) : (srt ls).length = ls.length := (srt_perm ls).length_eq
theorem alike_enc (a b : List Int) : PySem.W.alike (enc a) (enc b) = true := by
  show PySem.W.alike (.tuple (a.map .int)) (.tuple (b.map .int)) = true
  simp [PySem.W.alike, PySem.W.alike_ints]
theorem depth_enc (l : List Int) : (enc l).depth = 1 := by
  show PyData.depth (.tuple (l.map .int)) = 1
  simp [PyData.depth, PySem.W.depth_ints]

abbrev RT (H : Hp) : Value → List Int → Prop := fun v l => ∃ b, v = Value.ref b ∧ H b = some (.tup (l.map V.int))
theorem each_of {H : Hp} : ∀ {bs : List Addr} {ls : List (List Int)}, TupsAt H bs ls → PySem.W.EachIs (RT H) (bs.map Value.ref) ls
  | _, _, .nil => .nil
  | _, _, .cons h t => .cons ⟨_, rfl, h⟩ (each_of t)
theorem of_each {H : Hp} : ∀ {us : List Value} {ls : List (List Int)}, PySem.W.EachIs (RT H) us ls → ∃ bs : List Addr, us = bs.map Value.ref ∧ TupsAt H bs ls
  | _, _, .nil => ⟨[], rfl, .nil⟩
  | _, _, .cons ⟨b, e, h⟩ t => by
    obtain ⟨bs, e2, h2⟩ := of_each t
    exact ⟨b :: bs, by rw [e, e2]; rfl, .cons h h2⟩
theorem refs_eq : ∀ {bs : List Addr} {us : List Value}, Vals (bs.map V.ref) us → us = bs.map Value.ref
  | [], _, .nil => rfl
  | _ :: _, _, .cons r t => by
    cases r
    rw [List.map_cons, refs_eq t]
theorem reads_ints {h : Heap} : ∀ {l : List Int} {us : List Value}, Vals (l.map V.int) us → ∃ as, ReadsAll h us (l.map .int) as
  | [], _, .nil => ⟨[], .nil⟩
  | n :: l, _, .cons r t => by
    obtain ⟨k, rfl⟩ := r
    obtain ⟨as, e⟩ := reads_ints (h := h) t
    exact ⟨[] ++ as, .cons (.int n k) e⟩
section
variable {X : Cx} {pins : List (Addr × Obj)} {σ : L2.St} {H : Hp} {s : Shared}
theorem reads_tup {b : Addr} {l : List Int} (I : Inv X pins σ H s) (h : H b = some (.tup (l.map V.int))) : ∃ as, Reads s.heap (.ref b) (enc l) as := by
  obtain ⟨its, rv, ⟨o, e1, e2, n, e3⟩, _⟩ := I.tuple (.inl (.inl h))
  obtain ⟨as, r⟩ := reads_ints (h := s.heap) rv
  exact ⟨as, .tuple e1 e2 e3 (by simpa using r)⟩
theorem each_reads (I : Inv X pins σ H s) : ∀ {us : List Value} {ls : List (List Int)}, PySem.W.EachIs (RT H) us ls → PySem.W.EachIs (fun v b => ∃ as, Reads s.heap v (enc b) as) us ls
  | _, _, .nil => .nil
  | _, _, .cons ⟨b, e, h⟩ t => .cons (by rw [e]; exact reads_tup I h) (each_reads I t)
theorem reads_none {h : Heap} : ∀ {l : List Int} {us : List Value}, Vals (l.map V.int) us → ReadsAll h us (l.map .int) []
  | [], _, .nil => .nil
  | n :: l, _, .cons r t => by
    obtain ⟨k, rfl⟩ := r
    exact ReadsAll.cons (as := []) (bs := []) (.int n k) (reads_none t)
theorem reads_off {h' : Heap} {a : Addr} (k : ∀ b o, s.heap.get? b = some o → h'.get? b = some o) : ∀ {bs : List Addr} {ls : List (List Int)}, TupsAt H bs ls → Inv X pins σ H s →
    PySem.W.EachIs (fun v b => ∃ as, Reads h' v (enc b) as ∧ a ∉ as) (bs.map Value.ref) ls
  | _, _, .nil, _ => .nil
  | _, _, .cons h t, I => by
    obtain ⟨its, rv, ⟨o, e1, e2, n, e3⟩, _⟩ := I.tuple (.inl (.inl h))
    exact .cons ⟨[], .tuple (k _ _ e1) e2 e3 (by simpa using reads_none (h := h') rv), by simp⟩ (reads_off k t I)
theorem sortable_enc {ls : List (List Int)} (h : ∀ l ∈ ls, l ≠ []) : PySem.W.Sortable (ls.map enc) := .inl fun d hd => by
  obtain ⟨l, hl, rfl⟩ := List.mem_map.mp hd
  cases l with
  | nil => exact absurd rfl (h _ hl)
  | cons x r => exact ⟨_, _, rfl⟩
theorem tups_len {bs : List Addr} {ls : List (List Int)} (h : TupsAt H bs ls) : bs.length = ls.length := Paired.length h

/-- sorted(xs), xs a list of tuples of ints -/
def rSortedLT (K : PySem.W.Frag) : List V → Hp → VK → Prop := fun xs H Q => ∃ (a : Addr) (bs : List Addr) (ls : List (List Int)), xs = [.ref a] ∧ SqL K H a (bs.map V.ref) ∧ TupsAt H bs ls ∧ (∀ l ∈ ls, l ≠ []) ∧ ls.length ≤ sizeLine ∧
  ∀ (p : Addr) (bs' : List Addr), H p = none → TupsAt H bs' (srt ls) → Q (.ref p) (upd H p (.lst (bs'.map V.ref)))
theorem call_sortedLT (hu : X.A.units + 64 < cLine) : CallR X (.builtin "sorted") (rSortedLT X.K) := by
  intro pins s σ H xs us Q I r h
  obtain ⟨a, bs, ls, rfl, hq, hT, hne, hz, q⟩ := h
  obtain ⟨u, rfl, rx⟩ := vals1 r
  cases rx
  obtain ⟨its, rv, pl, _⟩ := I.list hq
  have e1 := refs_eq rv
  have e2 := each_of hT
  rw [← e1] at e2
  refine PySem.W.sorted_data (R := RT H) (enc := enc) pl.isList e2 (each_reads I e2) (PySem.W.AllAlike.of alike_enc) (sortable_enc hne) hz (fun b _ => by rw [depth_enc]; omega) fun out hl ho => ?_
  obtain ⟨bs', e3, h3⟩ := of_each ho
  obtain ⟨e, he⟩ := PyProof.Rows.sortedAll_at s.heap its (List.toArray out)
  have hlen : bs'.length = ls.length := (tups_len h3).trans (srt_len ls)
  refine ⟨.ref (s.heap.objs.size + 1), upd H (s.heap.objs.size + 1) (.lst (bs'.map V.ref)), I.laid (t' := s.toks) (fun b u e => PyProof.Rows.sortedAll_old e) (Nat.le_succ _) ?_, rfl, q _ bs' (I.hok.fresh (Nat.le_succ _)) h3⟩
  refine ⟨by rw [List.length_map]; omega, out, e, ?_, he⟩
  rw [e3]
  exact L2.vals_refs bs'

/-- sorted(d), d a dict whose keys are tuples of ints -/
def rSortedDT : List V → Hp → VK → Prop := fun xs H Q => ∃ (d : Addr) (kvs : List (List Int × V)), xs = [.ref d] ∧ Rd H d (.dT (kvs.map fun t => (t.1.map Sum.inl, t.2))) ∧ (∀ t ∈ kvs, t.1 ≠ []) ∧
  ∀ (p : Addr) (bs' : List Addr), H p = none → TupsAt H bs' (srt (kvs.map (·.1))) → Q (.ref p) (upd H p (.lst (bs'.map V.ref)))
theorem tups_keys {kvs : List (List Int × V)} : ∀ {bs : List Addr}, IsKeys H (kvs.map fun t => ((t.1.map Sum.inl : List Key), t.2)) bs → TupsAt H bs (kvs.map (·.1)) := by
  induction kvs with
  | nil => intro bs h; cases h; exact .nil
  | cons t r ih =>
    intro bs h
    unfold IsKeys at h
    rw [List.map_cons] at h
    cases h with
    | cons h1 h2 =>
      rw [List.map_cons]
      refine .cons ?_ (ih h2)
      rw [List.map_map] at h1
      exact h1
theorem call_sortedDT (hc : X.calm = true) (hu : X.A.units + 64 < cLine) : CallR X (.builtin "sorted") rSortedDT := by
  intro pins s σ H xs us Q I r h
  obtain ⟨d, kvs, rfl, hd, hne, q⟩ := h
  obtain ⟨u, rfl, rx⟩ := vals1 r
  cases rx
  obtain ⟨z, hs, ks, pr, o, es, ep, ho, hx, hdt, he, hn⟩ := (show ObjOk X.prog X.w H s.heap d (.dT (kvs.map fun t => ((t.1.map Sum.inl : List Key), t.2))) from hd.ok I.hok)
  have l1 : es.size = ks.length := size_of_entries he
  have l2 : (kvs.map fun t => ((t.1.map Sum.inl : List Key), t.2)).length = ks.length := Paired.length pr
  rw [List.length_map] at l2 z
  have hT := tups_keys (H := H) (isKeys_of pr)
  refine Calls.call_function_entry PyProof.Rows.kind_sorted PyProof.Rows.plain_sorted PyProof.Rows.entry_sorted (PyProof.Rows.args_sorted1 _) ?_
  unfold Builtin.«sorted»
  refine wpAny_bind (m := checkCount "sorted" 1 1 _) (wpAny_pure ?_)
  refine wpAny_bind (PySem.W.kdu_collect (A := X.A.in1) (kdl_raw hs hx hdt) (I.ok.hd hc) ho (by omega) fun h' tk acc hk it => ?_)
  have ea : acc.toList = (ks.map fun x => x.2.1).map Value.ref := by
    have hl : acc.toList.length = ks.length := by rw [Array.length_toList, it.1]; exact l1
    apply List.ext_getElem?
    intro j
    rw [List.map_map, List.getElem?_map]
    cases hj : acc.toList[j]? with
    | none =>
      have h1 := List.getElem?_eq_none_iff.mp hj
      rw [List.getElem?_eq_none (by omega)]
      all_goals rfl
    | some v =>
      obtain ⟨en, hen, hv⟩ := it.2 j v (by rw [← Array.getElem?_toList]; exact hj)
      have qe := entry_at he j
      rw [hen] at qe
      cases hb : ks[j]? with
      | none =>
        rw [hb] at qe
        exact nomatch (show some en = none from qe)
      | some b =>
        rw [hb] at qe
        have e2 : en = entryOfKey (tupleKind (mixKind X.prog X.w)) b := Option.some.inj qe
        rw [hv, e2]
        all_goals rfl
  have I1 : Inv X pins σ H { s with heap := h', toks := tk } := I.kept hk
  have hal : acc.toList.length = kvs.length := by rw [ea, List.length_map, List.length_map]; omega
  refine wpAny_bind (wpAny_newList ?_ (by rw [hal]; omega))
  have hoL : (h'.push (seqObj "list" acc.toList.toArray 0)).get? h'.objs.size = some (seqObj "list" acc.toList.toArray 0) := Heap.get?_push_size _ rfl
  show wpAny _ _ _ _ _ { s with heap := h'.push (seqObj "list" acc.toList.toArray 0), toks := tk }
  have I2 : Inv X pins σ (upd H h'.objs.size (.lst ((ks.map fun x => x.2.1).map V.ref))) { s with heap := h'.push (seqObj "list" acc.toList.toArray 0), toks := tk } :=
    I1.laid (t' := tk) (fun b ob e => Heap.get?_push_of_some _ e) (Nat.le_refl _) ⟨by rw [List.length_map, List.length_map]; omega, acc.toList, 0, by rw [ea]; exact L2.vals_refs _, hoL⟩
  have hfr : H h'.objs.size = none := I1.hok.fresh (Nat.le_refl _)
  have e2 := each_of hT
  rw [← ea] at e2
  have er := each_reads I1 e2
  have er2 : PySem.W.EachIs (fun v b => ∃ as, Reads (h'.push (seqObj "list" acc.toList.toArray 0)) v (enc b) as ∧ h'.objs.size ∉ as) acc.toList (kvs.map (·.1)) := by
    rw [ea] at er ⊢
    exact reads_off (fun b ob e => Heap.get?_push_of_some _ e) hT I1
  refine wpAny_bind (wpAny_holding (PySem.W.list_sort_data (s := { s with heap := h'.push (seqObj "list" acc.toList.toArray 0), toks := tk }) (R := RT H) (enc := enc) hoL e2 er2 (PySem.W.AllAlike.of alike_enc) (sortable_enc fun l hl => ?_) (by rw [List.length_map]; omega)
    (fun b _ => by rw [depth_enc]; show X.A.units + 1 + 1 + 1 < cLine; omega) fun out hl ho => ?_))
  · obtain ⟨t, ht, e⟩ := List.mem_map.mp hl
    rw [← e]
    exact hne t ht
  obtain ⟨bs', e3, h3⟩ := of_each ho
  obtain ⟨e', he'⟩ := PyProof.Rows.sortedHeap_at (vs := acc.toList) (out := List.toArray out) hoL
  have hlen : bs'.length = kvs.length := (tups_len h3).trans ((srt_len _).trans (List.length_map _))
  refine wpAny_pure ⟨_, rfl, .ref h'.objs.size, upd H h'.objs.size (.lst (bs'.map V.ref)), I1.laid (t' := tk) (fun b u e => ?_) (Nat.le_refl _)
    (show ObjOk X.prog X.w _ _ _ (.lst (bs'.map V.ref)) from ⟨by rw [List.length_map]; omega, out, e', by rw [e3]; exact L2.vals_refs bs', he'⟩), rfl, q _ bs' (I1.hok.fresh (Nat.le_refl _)) h3⟩
  have hb : b < h'.objs.size := Heap.lt_size e
  rw [PyProof.Rows.sortedHeap_old (Nat.ne_of_lt hb) (by rw [size_push']; exact Nat.lt_succ_of_lt hb)]
  exact Heap.get?_push_of_some _ e
end
end K01

set_option Elab.async false
set_option linter.all false
set_option maxRecDepth 100000
set_option maxHeartbeats 2000000
namespace K01
open PySem PySem.Spec PyProof.Rows L2

/-! ### {k: v}, k a tuple of ints -/
def tDisp1 (tk tv : TE) : TE := fun σ H Q => ∀ p, H p = none → tk σ (upd H p (.dT [])) fun x H1 => tv σ H1 fun y H2 => ∃ (b : Addr) (l : List Int), x = .ref b ∧ H2 b = some (.tup (l.map V.int)) ∧ H2 p = some (.dT []) ∧
  Q (.ref p) (upd H2 p (.dT [((l.map Sum.inl : List Key), y)]))
def disp1R (p : Addr) (Q : VK) : List (V × V) → Hp → Prop
  | [(x, y)], H2 => ∃ (b : Addr) (l : List Int), x = .ref b ∧ H2 b = some (.tup (l.map V.int)) ∧ H2 p = some (.dT []) ∧ Q (.ref p) (upd H2 p (.dT [((l.map Sum.inl : List Key), y)]))
  | _, _ => False
theorem disp1_of {p : Addr} {Q : VK} : ∀ {ps : List (V × V)} {H2 : Hp}, disp1R p Q ps H2 → ∃ (y : V) (b : Addr) (l : List Int), ps = [(V.ref b, y)] ∧ H2 b = some (.tup (l.map V.int)) ∧ H2 p = some (.dT []) ∧ Q (.ref p) (upd H2 p (.dT [((l.map Sum.inl : List Key), y)]))
  | [(x, y)], _, h => by
    obtain ⟨b, l, rfl, h⟩ := h
    exact ⟨y, b, l, rfl, h⟩
  | [], _, h => h.elim
  | _ :: _ :: _, _, h => h.elim
theorem pe_disp1 {X : Cx} {k v : Expr} {pos : Pos} {tk tv : TE} (hu : X.A.units + 64 < cLine) (hk : PE X k tk) (hv : PE X v tv) : PE X (.Dict [some k] [v] pos) (tDisp1 tk tv) := by
  refine ⟨fun pins s σ H Q I q => ?_⟩
  have hn := I.hok.fresh (Nat.le_refl s.heap.objs.size)
  have I1 := I.laid (a := s.heap.objs.size) (o := .dT []) (h' := s.heap.push { cls := .type "dict", data := .dict #[] }) (t' := s.toks) (fun _ _ q => Heap.get?_push_of_some _ q) (Nat.le_refl _) (dt_empty s.heap I.big)
  have hrun := (pps_cons (pos := pos) hk hv pps_nil).run pins _ σ _ (disp1R s.heap.objs.size Q) I1 (q _ hn)
  rw [arm_eval_Dict, zip_pairTrees [some k] [v] X.env pos rfl rfl, dictDisplay_pairs (pairTrees [some k] [v] X.env pos) (by intro e; cases e) (by show 1 < 17; decide)]
  refine wpAny_bind (wpAny_standAt (wpAny_bind (wpAny_subDictH (knd := tupleKind (mixKind X.prog X.w)) (by show X.A.units < cLine; omega) (by show 1 ≤ 15; decide) (thn hrun fun ws s2 hw => ?_))))
  obtain ⟨ps, H2, I2, rel, hR⟩ := hw
  obtain ⟨y, b, l, rfl, hb, hp, hq⟩ := disp1_of hR
  obtain ⟨u1, u2, rfl, rx, ry⟩ : ∃ u1 u2, ws = [(u1, u2)] ∧ RelV (V.ref b) u1 ∧ RelV y u2 := by
    cases rel with
    | cons h t =>
      cases t
      rename_i z
      exact ⟨z.1, z.2, rfl, h.1, h.2⟩
  cases rx
  have hb' : H2 b = some (.tup ((l.map Sum.inl : List Key).map kV)) := by rw [hb, List.map_map]; rfl
  obtain ⟨z, hd, xs, rel2, dd⟩ := dt_of I2.hok hp
  cases rel2
  refine ⟨[((l.map Sum.inl : List Key), b, u2)], ⟨rfl, rfl, key_of I2.hok hb', trivial⟩, dd, fun h' tk hm hs => ?_⟩
  refine wpAny_pure ⟨.ref s.heap.objs.size, _, ?_, rfl, hq⟩
  have e0 : storedAllH [] [((l.map Sum.inl : List Key), b, u2)] = [((l.map Sum.inl : List Key), b, u2)] := rfl
  rw [e0] at hm
  obtain ⟨o, es, ep, h1, h2, h3, h4, _, h5⟩ := hm
  refine d_write (t' := tk) I2 (by rw [hp]; exact True.intro) hs ⟨o, h1⟩ ⟨by show 1 ≤ sizeLine; decide, hd, _, .cons ⟨rfl, ?_, ry⟩ .nil, o, es, ep, h1, h2, h3, h4, h5⟩
  rw [upd_ne (ne_of hb' hp (fun z => nomatch z))]
  exact hb'

/-! ### a dict with tuple keys: its values -/
/-- the values of the locked dict at d -/
def ItdT (d : Addr) (o : Obj) (kvs : List (List Key × V)) : It :=
  ⟨fun i H => H d = some (.frz o (.dT kvs)) ∧ i < kvs.length, fun i H x H' => H' = H ∧ ∃ k, kvs[i]? = some (k, x), fun i H => H d = some (.frz o (.dT kvs)) ∧ kvs.length ≤ i⟩
section
variable {X : Cx} {pins : List (Addr × Obj)} {σ : L2.St} {H : Hp} {s : Shared} {d : Addr} {o : Obj}
theorem frzT2 {kvs : List (List Key × V)} (I : Inv X pins σ H s) (h : H d = some (.frz o (.dT kvs))) :
    (d == sysModules) = false ∧ ∃ (es : Array DictEntry) (ep : Nat), s.heap.DictRaw d es ep ∧ o.data = .dict es ep ∧ es.size = kvs.length ∧
      ∀ (i : Nat) (hi : i < es.size) (k : List Key) (v : V), kvs[i]? = some (k, v) → RelV v es[i].val := by
  obtain ⟨hd, z, hs, xs, pr, o', es, ep, ho, hx, hdt, he, _⟩ := I.hok d _ h
  rw [hd] at ho
  cases ho
  have l1 : es.size = xs.length := size_of_entries he
  have l2 : kvs.length = xs.length := Paired.length pr
  refine ⟨hs, es, ep, ⟨o, hd, hx, hdt⟩, hdt, by omega, fun i hi k v e => ?_⟩
  obtain ⟨b, hb, e1, e2, e3⟩ := L2.paired_get pr e
  have q := entry_at he i
  rw [hb, Array.getElem?_eq_getElem hi, Option.map_some] at q
  rw [Option.some.inj q]
  exact e3
end
section
variable {P : Program} {w : World} {K : PySem.W.Frag} {tg : Expr} {d : Addr} {o : Obj} {es : Array DictEntry} {ep : Nat}
theorem turn_valsT {kvs : List (List Key × V)} (it : Addr) (hod : o.data = .dict es ep) (hsz : es.size = kvs.length) : Turn P w K tg (ItdT d o kvs) [it] it (fun i h => h.IsValIter it d i es.size ep) where
  mem := by simp
  obj := fun i h st b hb => by
    have e : b = it := by simpa using hb
    subst e
    obtain ⟨oi, e, c, dd⟩ := st
    exact ⟨oi, e, fun v z => by rw [dd] at z; cases z⟩
  keep := fun i h h' st k => st.at fun oi e => k it (by simp) oi e
  item := by
    intro X hP hw hK hc i pins s σ H E I hf st hg
    subst hP hw hK
    obtain ⟨hd, hi⟩ := hg
    obtain ⟨f0, f1, f2, f3, f4, f5⟩ := hf it (by simp)
    obtain ⟨hs, es', ep', hraw, hdt, hsz', ent⟩ := frzT2 I hd
    obtain ⟨rfl, rfl⟩ := dict_ep hod hdt
    have hi' : i < es'.size := by omega
    have hkv : kvs[i]? = some kvs[i] := List.getElem?_eq_getElem hi
    refine wpAny_pyNext_values_item_raw st hraw hi' fun h' st' sb => ?_
    have I1 : Inv X pins σ H { s with heap := h' } := I.turned (t' := s.toks) (fun b ob hb e => (sb.2 b hb).trans e) f0 f1 f3 f4 f5
    obtain ⟨oi, e, c, dd⟩ := id st'
    exact ⟨es'[i].val, rfl, go_of (s := { s with heap := h' }) e c dd (by decide) ⟨kvs[i].2, H, I1, ent i hi' kvs[i].1 kvs[i].2 hkv, ⟨rfl, kvs[i].1, hkv⟩, st', fun b hb => (hf b hb).1⟩⟩
  done := by
    intro X hP hw hK hc i pins s σ H E I hf st hg
    subst hP hw hK
    obtain ⟨hd, hi⟩ := hg
    obtain ⟨f0, f1, f2, f3, f4, f5⟩ := hf it (by simp)
    obtain ⟨hs, es', ep', hraw, hdt, hsz', ent⟩ := frzT2 I hd
    obtain ⟨rfl, rfl⟩ := dict_ep hod hdt
    exact wpAny_pyNext_values_end_raw (I.ok.hd hc) st hraw (by omega) fun h' eb => ⟨rfl, I.turned (t' := s.toks) (fun b ob hb e => eb b ob hb e) f0 f1 f3 f4 f5⟩
  self := fun A i s Q E st h => wpAny_pyIter_valiter st h
end
/-- over e.values(), the dict from now on locked -/
def iValsT (td : TE) : TI := fun σ H R => td σ H fun x H1 => ∃ d kvs, x = .ref d ∧ H1 d = some (.dT kvs) ∧ ∀ o, R (ItdT d o kvs) (upd H1 d (.frz o (.dT kvs)))
theorem pi_valuesT {X : Cx} {tg e : Expr} {td : TE} {apos cpos : Pos} (he : PE X e td) (hbase : attributeBase e "values" X.env (eval e X.env) = eval e X.env := by rfl) (hline : (apos.endLine == cpos.line) = true := by rfl) :
    PI X tg (.Call (.Attribute e "values" apos) [] [] cpos) (iValsT td) := by
  refine ⟨fun pins s σ H R I h => ?_⟩
  refine wpAny_Call_method (T := "dict") (id := "dict.values") hbase rfl hline F.plainAttrs_dict F.slot_dict_values F.type_dict_values (thn (he.run pins s σ H _ I h) fun u s1 ⟨x, H1, I1, rx, d, kvs, ex, hd, q⟩ => ?_)
  subst ex
  obtain rfl : u = Value.ref d := rx
  obtain ⟨o, I2⟩ := I1.lock hd True.intro
  have hlk : (upd H1 d (.frz o (.dT kvs))) d = some (.frz o (.dT kvs)) := upd_same
  obtain ⟨hs, es, ep, hraw, hdt, hsz, ent⟩ := frzT2 I2 hlk
  have hraw' := hraw
  obtain ⟨ob, hob, hex, hodt⟩ := hraw'
  refine ⟨⟨ob, hob, hex.1⟩, fun b eb => by cases eb; exact ⟨ob, hob, hex.2.1⟩, ?_⟩
  have I3 : Inv X pins σ (upd H1 d (.frz o (.dT kvs))) { s1 with heap := s1.heap.push { cls := .type "dict_values", data := .fields #[.ref d] } } := I2.kept (t' := s1.toks) fun b ob q => Heap.get?_push_of_some _ q
  have fin : wpAny (model X.prog X.w) X.A (pyIter (.ref s1.heap.objs.size)) (PIE X pins σ tg R) X.xe { s1 with heap := s1.heap.push { cls := .type "dict_values", data := .fields #[.ref d] } } :=
    wpAny_pyIter_values_raw (d := d) (es := es) (ep := ep) ⟨_, Heap.get?_push_size _ rfl, rfl, rfl⟩ (hraw.at fun ob e => Heap.get?_push_of_some _ e) (pi_one (tk := s1.toks) I3 _ (turn_valsT _ hdt hsz) ⟨_, Heap.get?_push_size _ rfl, rfl, rfl⟩ (q o))
  show wpAny _ _ (callWith cpos (.builtin "dict.values") [.ref d] [] []) _ X.xe s1
  exact method_meetsIn F.slot_dict_values F.entry_dict_values rfl (PySem.evalArgs_none ⟨rfl, hraw.typeIs, F.args_dict_values_1 _, _, meets_dict_values_raw d hs, ⟨es, ep, hraw⟩, fin⟩)
/-- list(e.values()) -/
def tListVals (te : TE) : TE := fun σ H Q => te σ H fun x H1 => ∃ d kvs, x = .ref d ∧ H1 d = some (.dT kvs) ∧ ∀ p, H1 p = none → Q (.ref p) (upd H1 p (.lst (kvs.map (·.2))))
theorem vals_entries {H : Hp} : ∀ {kvs : List (List Key × V)} {xs : List (List Key × Addr × Value)}, KT H kvs xs → Vals (kvs.map (·.2)) (xs.map fun x => x.2.2)
  | _, _, .nil => .nil
  | _, _, .cons h t => .cons h.2.2 (vals_entries t)
theorem pe_listVals {X : Cx} {e : Expr} {te : TE} {p apos cpos pos : Pos} (hc : X.calm = true) (he : PE X e te) (hg : Gl X "list") (hm : X.mg "list" = none) (hv : bootBuiltins "list" = some (.type "list")) (hbase : attributeBase e "values" X.env (eval e X.env) = eval e X.env := by rfl) (hline : (apos.endLine == cpos.line) = true := by rfl)
    (hs : starEach [.Call (.Attribute e "values" apos) [] [] cpos] X.env = (false, eval (.Call (.Attribute e "values" apos) [] [] cpos) X.env) :: starEach [] X.env := by rfl) :
    PE X (.Call (.Name "list" p) [.Call (.Attribute e "values" apos) [] [] cpos] [] pos) (tListVals te) := by
  refine ⟨fun pins s σ H Q I hq => ?_⟩
  refine wpAny_Call_Name_kw (ld_blt I hg hm hv ?_)
  refine PyProof.Rows.callWith_type1 ?_ hs rfl
  rw [hs]
  show wpAny _ _ (spliced ((false, eval (.Call (.Attribute e "values" apos) [] [] cpos) X.env) :: backTo pos (starEach [] X.env))) _ _ s
  refine Calls.spliced_cons ?_
  refine wpAny_Call_method (T := "dict") (id := "dict.values") hbase rfl hline F.plainAttrs_dict F.slot_dict_values F.type_dict_values (thn (he.run pins s σ H _ I hq) fun u s1 ⟨x, H1, I1, rx, d, kvs, ex, hd, q⟩ => ?_)
  subst ex
  obtain rfl : u = Value.ref d := rx
  obtain ⟨z, hs0, ks, pr, o, es, ep, ho, hx, hdt, hent, hn⟩ := (show ObjOk X.prog X.w H1 s1.heap d (.dT kvs) from I1.hok d _ hd)
  have l1 : es.size = ks.length := size_of_entries hent
  have l2 : kvs.length = ks.length := Paired.length pr
  have hraw : s1.heap.DictRaw d es ep := ⟨o, ho, hx, hdt⟩
  have I2 : Inv X pins σ H1 { s1 with heap := s1.heap.push { cls := .type "dict_values", data := .fields #[.ref d] } } := I1.kept (t' := s1.toks) fun b ob q => Heap.get?_push_of_some _ q
  refine ⟨⟨o, ho, hx.1⟩, fun b eb => by cases eb; exact ⟨o, ho, hx.2.1⟩, ?_⟩
  show wpAny _ _ (callWith cpos (.builtin "dict.values") [.ref d] [] []) _ X.xe s1
  refine method_meetsIn F.slot_dict_values F.entry_dict_values rfl (PySem.evalArgs_none ⟨rfl, hraw.typeIs, F.args_dict_values_1 _, _, meets_dict_values_raw d hs0, ⟨es, ep, hraw⟩, ?_⟩)
  refine Calls.spliced_nil ?_
  refine PySem.W.kdl_call (KdlSrc.rawValues (d := d) (es := es) (ep := ep)) (I1.ok.hd hc) ⟨⟨_, Heap.get?_push_size _ rfl, rfl, rfl⟩, hraw.at fun ob e => Heap.get?_push_of_some _ e⟩ (by omega) fun h' tk acc' c' kp e it => ?_
  have ea : acc'.toList = ks.map fun x => x.2.2 := by
    have hl : acc'.toList.length = ks.length := by rw [Array.length_toList, it.1]; exact l1
    apply List.ext_getElem?
    intro j
    rw [List.getElem?_map]
    cases hj : acc'.toList[j]? with
    | none =>
      have h1 := List.getElem?_eq_none_iff.mp hj
      rw [List.getElem?_eq_none (by omega)]
      all_goals rfl
    | some v =>
      obtain ⟨hi, hv⟩ := it.2 j v (by rw [← Array.getElem?_toList]; exact hj)
      have qe := entry_at hent j
      rw [Array.getElem?_eq_getElem hi] at qe
      cases hb : ks[j]? with
      | none =>
        rw [hb] at qe
        exact nomatch (show some _ = none from qe)
      | some b =>
        rw [hb] at qe
        have e2 := Option.some.inj qe
        rw [hv, e2]
        all_goals rfl
  have rv : Vals (kvs.map (·.2)) acc'.toList := by rw [ea]; exact vals_entries pr
  refine ⟨.ref _, _, I2.laid (t' := tk) (o := .lst (kvs.map (·.2))) kp (Nat.le_refl _) ⟨by rw [List.length_map]; exact z, acc'.toList, c', rv, by rw [Array.toArray_toList]; exact e⟩, rfl, q _ (I2.hok.fresh (Nat.le_refl _))⟩

/-! ### len(set(t)), t a tuple of ints -/
def tLenSetT (K : PySem.W.Frag) (ta : TE) : TE := fun σ H Q => ta σ H fun x H1 => ∃ (l : Addr) (ns : List Int), x = .ref l ∧ SqT K H1 l (ns.map V.int) ∧ ns.Nodup ∧ ns.length ≤ 1000 ∧ Q (.int (ns.length : Nat)) H1
theorem two_nodup {a b : List Int} (ha : a.Nodup) (hb : b.Nodup) (h : ∀ k, k ∈ a ↔ k ∈ b) : a.length = b.length :=
  ((List.perm_ext_iff_of_nodup ha hb).mpr h).length_eq
theorem intsAre_of : ∀ {ns : List Int} {us : List Value}, Vals (ns.map V.int) us → PyProof.Rows.IntsAre us ns
  | [], _, .nil => .nil
  | n :: ns, _, .cons r t => by
    obtain ⟨k, rfl⟩ := r
    exact .cons n k (intsAre_of t)
theorem pe_lenSetT {X : Cx} {a : Expr} {ta : TE} {p p2 q pos : Pos} (hg : Gl X "len") (hm : X.mg "len" = none) (hg2 : Gl X "set") (hm2 : X.mg "set" = none) (ha : PE X a ta) (hc : X.calm = true := by rfl)
    (na : starEach [a] X.env = (false, eval a X.env) :: starEach [] X.env := by rfl) : PE X (.Call (.Name "len" p) [.Call (.Name "set" p2) [a] [] q] [] pos) (tLenSetT X.K ta) := by
  refine ⟨fun pins s σ H Q I h => ?_⟩
  refine Call_ (ld_blt I hg hm PySem.boot_len ?_)
  refine PyProof.Rows.callWith_builtin1 (PyProof.Rows.args_cons ?_ rfl) rfl rfl
  refine Call_ (ld_blt I hg2 hm2 PyProof.Rows.boot_set ?_)
  refine PyProof.Rows.callWith_type1 (PyProof.Rows.args_cons (thn (ha.run pins s σ H _ I h) fun v s1 ⟨x, H1, I1, r1, q1⟩ => PyProof.Rows.args_nil ?_) na) na rfl
  obtain ⟨l, ns, rfl, hq, hnd, hl, q1⟩ := q1
  cases r1
  obtain ⟨its, r, pl, hz⟩ := I1.tuple hq
  refine call_set_tupI ns (I1.ok.hd hc) (show s1.heap.IsTuple l its.toArray from pl) (by simpa using intsAre_of r) (by unfold scanBound; omega) fun h' tk c R1 hcn k => ?_
  refine PyProof.Rows.args_nil ?_
  obtain ⟨o, es, ep, t, ho, hex, hd, _, hn, hS, _, hf, hsz, _⟩ := R1
  have e1 : es.size = ns.length := by
    have h1 := two_nodup hn hnd fun k => by
      have := hS k
      rw [decide_eq_true_eq] at this
      exact this.symm
    rw [List.length_map, Array.length_toList] at h1
    exact h1
  have I2 : Inv X pins σ H1 { s1 with heap := h', toks := tk } := I1.kept k
  exact call_len_set ho hex hd hf (by omega) ⟨.int ns.length, H1, I2.tok _, ⟨_, by rw [e1]⟩, q1⟩

/-! ### enumerate(t), t a tuple -/
set_option maxHeartbeats 1000000 in
theorem meets_enum1 {v : Value} {o : Obj} {G : Heap → Prop} (B : Begins v o G) :
    Meets (Builtin.«enumerate.__new__» ⟨[.type "enumerate", v], []⟩) (fun _ R s => G s.heap ∧
      R (.ok (.ret (.ref (s.heap.push o).objs.size))) { s with heap := (s.heap.push o).push { cls := .type "enumerate", data := .fields #[.none, .bool false, .ref s.heap.objs.size, rawInt 0, .none, .none] } }) :=
  .of_wp fun prog w A R s h => by
    obtain ⟨hp, g, d, tk, os⟩ := s; obtain ⟨h1, h⟩ := h
    have hsub := sub_enumerate
    have q1 : ∀ {A' : Around} {E : Value → Shared → Prop} {Q : Value → Shared → Prop}, Q (.ref hp.objs.size) ⟨hp.push o, g, d, tk, os⟩ → wpAny (model prog w) A' (pyIter v) Q E ⟨hp, g, d, tk, os⟩ :=
      fun q => B.iter prog w _ _ ⟨hp, g, d, tk, os⟩ _ h1 q
    wp_walk using q1
    refine wpAny_stack_any fun st => wpAny_pure ?_
    split
    · rename_i c _ _ _ _ _
      cases (c == Value.type "enumerate")
      · wp_walk using q1
        exact ⟨_, rfl, h⟩
      · wp_walk using q1
        exact ⟨_, rfl, h⟩
    · wp_walk using q1
      exact ⟨_, rfl, h⟩
theorem call_enum1 {prog : Program} {w : World} {A : Around} {E : Value → Shared → Prop} {s : Shared} {v : Value} {o : Obj} {G : Heap → Prop} {Q : Value → Shared → Prop} (B : Begins v o G) (h1 : G s.heap)
    (h : ∀ h', IsEnum h' (s.heap.objs.size + 1) s.heap.objs.size 0 .none → h'.get? s.heap.objs.size = some o → h'.objs.size = s.heap.objs.size + 2 →
      (∀ b o, s.heap.get? b = some o → h'.get? b = some o) → Q (.ref (s.heap.objs.size + 1)) { s with heap := h' }) :
    wpAny (model prog w) A (call (.type "enumerate") [v]) Q E s := by
  refine callType_new F.called_enumerate (by decide) (F.typeCall_enumerate_1 _) (F.newCall_enumerate_1 _) (fun obj => F.args_object_init_2 obj _) F.entry_enumerate_new
    (meets_enum1 B) ⟨h1, ?_⟩
  have hz : (s.heap.push o).objs.size = s.heap.objs.size + 1 := Heap.size_push ..
  show _ ∧ _
  rw [hz]
  have he : IsEnum ((s.heap.push o).push { cls := .type "enumerate", data := .fields #[.none, .bool false, .ref s.heap.objs.size, rawInt 0, .none, .none] }) (s.heap.objs.size + 1) s.heap.objs.size 0 .none := by
    have := Heap.get?_push_size (s.heap.push o) (o := { cls := .type "enumerate", data := .fields #[.none, .bool false, .ref s.heap.objs.size, rawInt 0, .none, .none] }) rfl
    rw [hz] at this; exact this
  refine ⟨⟨_, he, rfl⟩, h _ he (Heap.get?_push_of_some _ (Heap.get?_push_size _ B.free)) (by rw [Heap.size_push, hz]) fun b o x => Heap.get?_push_of_some _ (Heap.get?_push_of_some _ x)⟩

/-- the tuple at a, each item in a new pair -/
def IteT (K : PySem.W.Frag) (a : Addr) : It :=
  ⟨fun i H => ∃ (xs : List V) (x : V), SqT K H a xs ∧ xs[i]? = some x, fun i H v H' => ∃ T x, v = .ref T ∧ H T = none ∧ H' = upd H T (.tup [.int (i : Nat), x]) ∧ ∀ xs, SqT K H a xs → xs[i]? = some x, fun i H => ∃ xs : List V, SqT K H a xs ∧ xs.length ≤ i⟩
theorem turn_enumT {P : Program} {w : World} {K : PySem.W.Frag} {elts : List Expr} {kk : Nat} {tpos : Pos} (a e it : Addr) (n : Nat) (hlt : a < it) (hie : it < e) :
    Turn P w K (.Tuple elts kk tpos) (IteT K a) [e, it] e (fun i h => (∃ old, IsEnum h e it ((i : Nat) : Int) old) ∧ h.IsTupleIter it a i) where
  mem := by simp
  obj := fun i h st b hb => by
    obtain ⟨⟨old, he⟩, ⟨o, ho, hc, hd⟩⟩ := st
    have e' : b = e ∨ b = it := by simpa using hb
    rcases e' with z | z
    · rw [z]; exact ⟨_, he, fun v q => nomatch q⟩
    · rw [z]; exact ⟨o, ho, fun v q => by rw [hd] at q; cases q⟩
  keep := fun i h h' st k => let ⟨⟨old, he⟩, hi⟩ := st; ⟨⟨old, k e (by simp) _ he⟩, hi.at fun o q => k it (by simp) o q⟩
  item := by
    intro X hP hw hK hc i pins s σ H E I hf st hg
    subst hP hw hK
    obtain ⟨⟨old, he⟩, hit⟩ := st
    obtain ⟨xs, x, hq, hx⟩ := hg
    obtain ⟨its, rv, p, hz⟩ := I.tuple hq
    obtain ⟨u, hu, ru⟩ := rv.get hx
    have hel : e < s.heap.objs.size := Heap.lt_size he
    have hil : it < s.heap.objs.size := by obtain ⟨_, q, _⟩ := hit; exact Heap.lt_size q
    have hne : e ≠ it := Nat.ne_of_gt hie
    have hiu : its.toArray[i]? = some u := by simpa using hu
    have D := Draws.tuple (prog := X.prog) (w := X.w) (A := X.A.in1) (I.ok.hd hc) it a (Nat.ne_of_lt hlt) its.toArray
    refine wpAny_pyNext_enum_itemC D he ⟨hit, (show s.heap.IsTuple a its.toArray from p)⟩ (i := i) (Array.getElem?_eq_some_iff.mp hiu).1 hne (by
      intro hm
      rcases List.mem_cons.mp hm with z | z
      · exact hne z
      · have z' := List.mem_singleton.mp z
        rw [z'] at hie
        exact Nat.lt_asymm hlt hie) fun x' h' tk hP ho hit' hT hsz hk => ?_
    have ex : x' = u := by
      rw [hiu] at hP
      exact (Option.some.inj hP).symm
    subst ex
    refine ⟨_, rfl, wpAny_letOwnedTupleGo_enum (s := { s with heap := h', toks := tk + 1 }) ho fun h'' he' sb => ?_⟩
    have hT2 : h''.get? s.heap.objs.size = some { cls := .type "tuple", data := .seq #[.int i tk, x'] } := (sb.2 _ (Nat.ne_of_gt hel)).trans hT
    have new : ObjOk X.prog X.w (upd H s.heap.objs.size (.tup [.int (i : Nat), x])) h'' s.heap.objs.size (.tup [.int (i : Nat), x]) :=
      ⟨by show 2 ≤ sizeLine; decide, [.int i tk, x'], .cons ⟨_, rfl⟩ (.cons ru .nil), ⟨_, hT2, rfl, _, rfl⟩⟩
    have I1 : Inv X pins σ (upd H s.heap.objs.size (.tup [.int (i : Nat), x])) { s with heap := h'', toks := tk + 1 } :=
      I.turnedNew (ch := [e, it]) (fun b ob hb q => (sb.2 b (fun z => hb (by simp [z]))).trans (hk b ob (fun z => hb (by simp [z])) (fun z => hb (by simp [z])) q)) hf (Nat.le_refl _) new
    refine ⟨.ref s.heap.objs.size, _, I1, rfl, ⟨_, x, rfl, I.hok.fresh (Nat.le_refl _), rfl, fun ys hy => by rw [I.tuple_inj hy hq]; exact hx⟩, ⟨⟨x', ?_⟩, hit'.1.at fun o q => (sb.2 it (Ne.symm hne)).trans q⟩, fun b hb => ?_⟩
    · have e1 : ((i + 1 : Nat) : Int) = (i : Int) + 1 := by omega
      rw [e1]; exact he'
    · have hb' : b < s.heap.objs.size := by
        have e' : b = e ∨ b = it := by simpa using hb
        rcases e' with z | z
        · rw [z]; exact hel
        · rw [z]; exact hil
      rw [upd_ne (Nat.ne_of_lt hb')]
      exact (hf b hb).1
  done := by
    intro X hP hw hK hc i pins s σ H E I hf st hg
    subst hP hw hK
    obtain ⟨⟨old, he⟩, hit⟩ := st
    obtain ⟨xs, hq, hx⟩ := hg
    obtain ⟨its, rv, p, hz⟩ := I.tuple hq
    obtain ⟨f0, f1, f2, f3, f4, f5⟩ := hf it (by simp)
    have hl := rv.length
    have hT : s.TypeIs (.ref e) "enumerate" := ⟨_, he, rfl⟩
    unfold pyNext
    refine wpAny_bind (wpAny_attempt (wpAny_callSpecial?_slot (name := Str.ofString "__next__") hT F.slot_enumerate_next
      (wpAny_call_entry F.slot_enumerate_next hT F.entry_enumerate_next ?_ (F.args_enumerate_next_1 _))))
    show wpAny _ _ (field (.ref e) 2 >>= _) _ _ _
    refine wpAny_bind (wpAny_field he rfl (x := .ref it) rfl ?_)
    refine wpAny_bind (wpAny_nextOf_tuple_end (I.ok.hd hc) hit (show s.heap.IsTuple a its.toArray from p) (by simp; omega) fun h' x he' hx' => ?_)
    obtain ⟨o, ho, hcl⟩ := hx'
    refine wpAny_bind (wpAny_isInstance (T := "StopIteration") (b := true) ⟨o, ho, hcl⟩ isSubtype_stop ?_)
    exact wpAny_pure ⟨rfl, I.turned (t' := s.toks) (fun b o hb q => he' b o hb q) f0 f1 f3 f4 f5⟩
  self := fun A i s Q E st h => let ⟨⟨_, he⟩, _⟩ := st; wpAny_pyIter_enum he h
def iEnumT (K : PySem.W.Frag) (ta : TA) : TI := fun σ H R => ta σ H fun vs H1 => ∃ a xs, vs = [.ref a] ∧ SqT K H1 a xs ∧ R (IteT K a) H1
theorem pi_enumT {X : Cx} {e : Expr} {ta : TA} {p pos tpos : Pos} {elts : List Expr} {kk : Nat} (hg : Gl X "enumerate") (hm : X.mg "enumerate" = none) (ha : PA X [e] ta) (hs : starEach [e] X.env = [(false, eval e X.env)] := by rfl) :
    PI X (.Tuple elts kk tpos) (.Call (.Name "enumerate" p) [e] [] pos) (iEnumT X.K ta) := by
  refine ⟨fun pins s σ H R I h => ?_⟩
  refine Call_ (ld_blt I hg hm boot_enumerate (PyProof.Rows.callWith_type1 (thn (ha.run pos pins s σ H _ I h) fun us s1 ⟨vs, H1, I1, r1, q1⟩ => ?_) hs rfl))
  obtain ⟨a, xs, ex, hq, q⟩ := q1
  subst ex
  cases r1 with
  | cons r rr =>
    cases rr
    cases r
    obtain ⟨its, rv, p', hz⟩ := I1.tuple hq
    have hal : a < s1.heap.objs.size := by obtain ⟨o, ho, _⟩ := p'; exact Heap.lt_size ho
    refine call_enum1 (begins_tuple a its.toArray) (show s1.heap.IsTuple a its.toArray from p') fun h' he hit hsz hk => wpAny_pyIter_enum he ?_
    have I2 : Inv X pins σ H1 { s1 with heap := h' } := I1.kept (t' := s1.toks) hk
    refine ⟨s1.heap.objs.size + 1, [s1.heap.objs.size + 1, s1.heap.objs.size], _, _, H1, rfl, I2, turn_enumT a (s1.heap.objs.size + 1) s1.heap.objs.size 0 hal (Nat.lt_succ_self _), ⟨⟨.none, he⟩, ⟨_, hit, rfl, rfl⟩⟩, fun b hb => ?_, q⟩
    have e' : b = s1.heap.objs.size + 1 ∨ b = s1.heap.objs.size := by simpa using hb
    have hle : s1.heap.objs.size ≤ b := by
      rcases e' with z | z
      · rw [z]; exact Nat.le_add_right _ _
      · rw [z]; exact Nat.le_refl _
    exact I1.fpOk hle (I1.hok.fresh hle)
theorem walk_enumT {K : PySem.W.Frag} {a : Addr} {xs : List V} : Walk (IteT K a) xs.length (fun H => SqT K H a xs) (YPair (fun i => some (.int (i : Nat))) (fun i => xs[i]?)) where
  goes := fun i H hi h => ⟨xs, xs[i], h, List.getElem?_eq_getElem hi⟩
  stops := fun H h => ⟨xs, h, Nat.le_refl _⟩
  yields := fun i H v H' hi h ⟨T, x, e1, e2, e3, e4⟩ => ⟨T, _, x, e1, e2, e3, rfl, e4 xs h⟩
theorem walk_valsT {d : Addr} {o : Obj} {kvs : List (List Key × V)} : Walk (ItdT d o kvs) kvs.length (fun H => H d = some (.frz o (.dT kvs))) (fun i H x H' => H' = H ∧ ∃ k, kvs[i]? = some (k, x)) where
  goes := fun i H hi h => ⟨h, hi⟩
  stops := fun H h => ⟨h, Nat.le_refl _⟩
  yields := fun i H v H' hi h e => e
end K01

set_option Elab.async false
set_option linter.all false
set_option maxRecDepth 100000
set_option maxHeartbeats 2000000
/-! K01: the text by places, the names of each def. -/
namespace K01
open PySem L2
def topS (i : Nat) : Stmt := PySem.Challenge.pw_restlesshelf_k01_whole_shelves.main.body.getD i (.Pass ⟨0, 0, 0, 0⟩)
abbrev sNum : Stmt := topS 10
abbrev sPerm : Stmt := topS 11
abbrev sNeedH : Stmt := topS 12
abbrev sNeedL : Stmt := topS 13
abbrev sNeedS : Stmt := topS 14
abbrev sNeedP : Stmt := topS 15
abbrev sBT : Stmt := topS 16
abbrev sBW : Stmt := topS 17
abbrev sTouched : Stmt := topS 18
abbrev sAfter : Stmt := topS 19
abbrev sWF : Stmt := topS 20
abbrev sCC : Stmt := topS 21
abbrev sWB : Stmt := topS 22
abbrev sDist : Stmt := topS 23
abbrev sFar : Stmt := topS 24
abbrev sOrder : Stmt := topS 25
abbrev sTaken : Stmt := topS 27
abbrev sLOrder : Stmt := topS 28
abbrev sLHabit : Stmt := topS 29
abbrev sAlike : Stmt := topS 30
abbrev sLTouch : Stmt := topS 31
abbrev sNear : Stmt := topS 32
abbrev sPick : Stmt := topS 33
abbrev sLeast : Stmt := topS 34
abbrev sLaw : Stmt := topS 35
abbrev nNum : List Str := ["value", "low", "high"]
abbrev nPerm : List Str := ["value", "many", "place"]
abbrev nNeedH : List Str := ["value", "place", "moved"]
abbrev nNeedL : List Str := ["habit", "value"]
abbrev nNeedS : List Str := ["habit", "layout"]
abbrev nNeedP : List Str := ["habit", "value"]
abbrev nBT : List Str := ["habit", "layout", "place", "stands"]
abbrev nBW : List Str := ["habit", "layout", "word", "place"]
abbrev nTouched : List Str := ["habit", "layout", "place"]
abbrev nAfter : List Str := ["habit", "layout", "word", "place"]
abbrev nWF : List Str := ["habit", "layout", "found", "layer", "later", "one", "place", "other"]
abbrev nCC : List Str := ["habit", "layout"]
abbrev nWB : List Str := ["habit", "one", "other"]
abbrev nDist : List Str := ["habit", "one", "other", "found"]
abbrev nFar : List Str := ["habit", "layout", "word"]
abbrev nOrder : List Str := ["habit"]
abbrev nTaken : List Str := ["_law_row", "_law_many", "_law_found", "_law_cell"]
abbrev nLOrder : List Str := ["_law_row", "_law_many", "_law_left", "_law_found"]
abbrev nLHabit : List Str := ["_law_row", "_law_places", "_law_way", "_law_found", "_law_place", "_law_moved", "_law_other", "_law_spot"]
abbrev nAlike : List Str := ["_law_found", "_law_due", "_law_k"]
abbrev nLTouch : List Str := ["_law_habit_here", "_law_layout", "_law_place", "_law_spot"]
abbrev nNear : List Str := ["_law_habit_here", "_law_layout", "_law_found", "_law_far", "_law_grown", "_law_one", "_law_place", "_law_other"]
abbrev nPick : List Str := ["_law_row", "_law_things"]
abbrev nLeast : List Str := ["_law_habit_here", "_law_layout", "_law_other", "_law_many", "_law_last", "_law_turn", "_law_longer", "_law_seen", "_law_one", "_law_word", "_law_place", "_law_spot"]
abbrev nLaw : List Str := ["_law_script", "_law_row", "_law_places", "_law_habit_here", "_law_layout", "_law_turn", "_law_word", "_law_here", "_law_place", "_law_near_here", "_law_other", "_law_found", "_law_whole"]
theorem scNum : FnScope nNum ["value", "low", "high"] (defScope sNum) := ⟨rfl, rfl, rfl, by decide +kernel, rfl, by decide +kernel, by decide +kernel⟩
theorem scPerm : FnScope nPerm ["value", "many"] (defScope sPerm) := ⟨rfl, rfl, rfl, by decide +kernel, rfl, by decide +kernel, by decide +kernel⟩
theorem scNeedH : FnScope nNeedH ["value"] (defScope sNeedH) := ⟨rfl, rfl, rfl, by decide +kernel, rfl, by decide +kernel, by decide +kernel⟩
theorem scNeedL : FnScope nNeedL ["habit", "value"] (defScope sNeedL) := ⟨rfl, rfl, rfl, by decide +kernel, rfl, by decide +kernel, by decide +kernel⟩
theorem scNeedS : FnScope nNeedS ["habit", "layout"] (defScope sNeedS) := ⟨rfl, rfl, rfl, by decide +kernel, rfl, by decide +kernel, by decide +kernel⟩
theorem scNeedP : FnScope nNeedP ["habit", "value"] (defScope sNeedP) := ⟨rfl, rfl, rfl, by decide +kernel, rfl, by decide +kernel, by decide +kernel⟩
theorem scBT : FnScope nBT ["habit", "layout", "place"] (defScope sBT) := ⟨rfl, rfl, rfl, by decide +kernel, rfl, by decide +kernel, by decide +kernel⟩
theorem scBW : FnScope nBW ["habit", "layout", "word"] (defScope sBW) := ⟨rfl, rfl, rfl, by decide +kernel, rfl, by decide +kernel, by decide +kernel⟩
theorem scTouched : FnScope nTouched ["habit", "layout", "place"] (defScope sTouched) := ⟨rfl, rfl, rfl, by decide +kernel, rfl, by decide +kernel, by decide +kernel⟩
theorem scAfter : FnScope nAfter ["habit", "layout", "word"] (defScope sAfter) := ⟨rfl, rfl, rfl, by decide +kernel, rfl, by decide +kernel, by decide +kernel⟩
theorem scWF : FnScope nWF ["habit", "layout"] (defScope sWF) := ⟨rfl, rfl, rfl, by decide +kernel, rfl, by decide +kernel, by decide +kernel⟩
theorem scCC : FnScope nCC ["habit", "layout"] (defScope sCC) := ⟨rfl, rfl, rfl, by decide +kernel, rfl, by decide +kernel, by decide +kernel⟩
theorem scWB : FnScope nWB ["habit", "one", "other"] (defScope sWB) := ⟨rfl, rfl, rfl, by decide +kernel, rfl, by decide +kernel, by decide +kernel⟩
theorem scDist : FnScope nDist ["habit", "one", "other"] (defScope sDist) := ⟨rfl, rfl, rfl, by decide +kernel, rfl, by decide +kernel, by decide +kernel⟩
theorem scFar : FnScope nFar ["habit", "layout"] (defScope sFar) := ⟨rfl, rfl, rfl, by decide +kernel, rfl, by decide +kernel, by decide +kernel⟩
theorem scOrder : FnScope nOrder ["habit"] (defScope sOrder) := ⟨rfl, rfl, rfl, by decide +kernel, rfl, by decide +kernel, by decide +kernel⟩
theorem scTaken : FnScope nTaken ["_law_row", "_law_many"] (defScope sTaken) := ⟨rfl, rfl, rfl, by decide +kernel, rfl, by decide +kernel, by decide +kernel⟩
theorem scLOrder : FnScope nLOrder ["_law_row", "_law_many"] (defScope sLOrder) := ⟨rfl, rfl, rfl, by decide +kernel, rfl, by decide +kernel, by decide +kernel⟩
theorem scLHabit : FnScope nLHabit ["_law_row", "_law_places"] (defScope sLHabit) := ⟨rfl, rfl, rfl, by decide +kernel, rfl, by decide +kernel, by decide +kernel⟩
theorem scAlike : FnScope nAlike ["_law_found", "_law_due"] (defScope sAlike) := ⟨rfl, rfl, rfl, by decide +kernel, rfl, by decide +kernel, by decide +kernel⟩
theorem scLTouch : FnScope nLTouch ["_law_habit_here", "_law_layout", "_law_place"] (defScope sLTouch) := ⟨rfl, rfl, rfl, by decide +kernel, rfl, by decide +kernel, by decide +kernel⟩
theorem scNear : FnScope nNear ["_law_habit_here", "_law_layout"] (defScope sNear) := ⟨rfl, rfl, rfl, by decide +kernel, rfl, by decide +kernel, by decide +kernel⟩
theorem scPick : FnScope nPick ["_law_row", "_law_things"] (defScope sPick) := ⟨rfl, rfl, rfl, by decide +kernel, rfl, by decide +kernel, by decide +kernel⟩
theorem scLeast : FnScope nLeast ["_law_habit_here", "_law_layout", "_law_other", "_law_many"] (defScope sLeast) := ⟨rfl, rfl, rfl, by decide +kernel, rfl, by decide +kernel, by decide +kernel⟩
theorem scLaw : FnScope nLaw ["_law_script"] (defScope sLaw) := ⟨rfl, rfl, rfl, by decide +kernel, rfl, by decide +kernel, by decide +kernel⟩
end K01

set_option Elab.async false
set_option linter.all false
set_option maxRecDepth 100000
set_option maxHeartbeats 2000000
/-! K01: all(f(x, ..) for x in t), t a tuple of ints, f a def that answers by a number's bounds, other names captured. -/
namespace K01
open PySem PySem.Spec PyProof.Rows L2

/-! ### the raw walk: what is known of a heap, whatever frames run -/
structure Rw (K : PySem.W.Frag) (mg : Str → Option Value) (h : Heap) : Prop where
  kin : K.In h
  glob : h.Ns mainGlobals mg
  blt : ∃ mb, h.Ns builtinsNs mb ∧ ∀ x : Str, x ≠ "__name__" → mb x = bootBuiltins x
  lim : h.NoLimit
theorem Rw.keeps {K : PySem.W.Frag} {mg : Str → Option Value} {h h' : Heap} (R : Rw K mg h) (k : ∀ b o, h.get? b = some o → h'.get? b = some o) : Rw K mg h' :=
  ⟨R.kin.keeps k, R.glob.keeps k, let ⟨mb, a, b⟩ := R.blt; ⟨mb, a.keeps k, b⟩, R.lim.keeps k⟩
structure Ev0 (env : Env) : Prop where
  kind : env.scope.kind = .function
  eg : env.globals = mainGlobals
  eb : env.builtins = builtinsNs
abbrev GlE (env : Env) (x : Str) : Prop := env.kindOf x = some .globalImplicit
section
variable {prog : Program} {w : World} {K : PySem.W.Frag} {mg : Str → Option Value} {A : Around} {E : Value → Shared → Prop} {s : Shared} {env : Env}
theorem raw_loc {x : Str} {m : Str → Option Value} {v : Value} {pos : Pos} {Q : Value → Shared → Prop} (e0 : Ev0 env) (hk : env.kindOf x = some .local) (hn : s.heap.Ns env.locals m) (hm : m x = some v) (h : Q v s)
    (hd : (x == ("__debug__" : Str)) = false := by decide) : wpAny (model prog w) A (eval (.Name x pos) env) Q E s :=
  wpAny_Name (wpAny_loadName_local e0.kind hk hn hm h) hd
theorem raw_free {x : Str} {c : Addr} {v : Value} {pos : Pos} {Q : Value → Shared → Prop} (e0 : Ev0 env) (hk : env.kindOf x = some .free) (hc : env.cells.lookup x = some c) (hv : s.heap.IsCell c (some v)) (h : Q v s)
    (hd : (x == ("__debug__" : Str)) = false := by decide) (hcd : (x == ("__classdict__" : Str)) = false := by decide) : wpAny (model prog w) A (eval (.Name x pos) env) Q E s :=
  wpAny_Name (wpAny_loadName_free e0.kind hk hc hv h hcd) hd
theorem raw_blt {x : Str} {u : Value} {pos : Pos} {Q : Value → Shared → Prop} (e0 : Ev0 env) (R : Rw K mg s.heap) (hg : GlE env x) (hm : mg x = none) (hv : bootBuiltins x = some u) (h : Q u s) (hn : x ≠ "__name__" := by decide)
    (hd : (x == ("__debug__" : Str)) = false := by decide) : wpAny (model prog w) A (eval (.Name x pos) env) Q E s := by
  obtain ⟨mb, h1, h2⟩ := R.blt
  exact Calls.Name_function_global e0.kind hg (Calls.loadGlobal_builtin (by rw [e0.eg]; exact R.glob) hm (by rw [e0.eb]; exact h1) ((h2 x hn).trans hv) h) hd
theorem raw_glob {x : Str} {u : Value} {pos : Pos} {Q : Value → Shared → Prop} (e0 : Ev0 env) (R : Rw K mg s.heap) (hg : GlE env x) (hm : mg x = some u) (h : Q u s) (hd : (x == ("__debug__" : Str)) = false := by decide) :
    wpAny (model prog w) A (eval (.Name x pos) env) Q E s :=
  Calls.Name_function_global e0.kind hg (Calls.loadGlobal_global (by rw [e0.eg]; exact R.glob) hm h) hd
/-- isinstance(x, T), x an int in a local name -/
theorem raw_isint {x : Str} {T : Str} {Tn : String} {m : Str → Option Value} {i : Int} {tk : Tok} {b : Bool} {p1 p2 p3 pos : Pos} {Q : Value → Shared → Prop} (e0 : Ev0 env) (R : Rw K mg s.heap) (hk : env.kindOf x = some .local) (hn : s.heap.Ns env.locals m) (hm : m x = some (.int i tk))
    (gi : GlE env "isinstance") (mi : mg "isinstance" = none) (gT : GlE env T) (mT : mg T = none) (bT : bootBuiltins T = some (.type Tn)) (hb : PySem.W.kitOne K (.type "int") (.type Tn) = some b) (h : ∀ t, Q (.bool b) { s with toks := t })
    (hnT : T ≠ "__name__" := by decide) (hdT : (T == ("__debug__" : Str)) = false := by decide) (hd : (x == ("__debug__" : Str)) = false := by decide)
    (s1 : starEach [.Name x p1, .Name T p2] env = (false, eval (.Name x p1) env) :: starEach [.Name T p2] env := by rfl) (s2 : starEach [.Name T p2] env = (false, eval (.Name T p2) env) :: starEach [] env := by rfl)
    (hpl : (backTo pos (starEach [.Name T p2] env)).any (·.1) = false := by rfl) :
    wpAny (model prog w) A (eval (.Call (.Name "isinstance" p3) [.Name x p1, .Name T p2] [] pos) env) Q E s := by
  refine wpAny_Call_Name_kw (raw_blt e0 R gi mi (by decide +kernel : bootBuiltins "isinstance" = some (.builtin "isinstance")) ?_)
  refine PyProof.Rows.callWith_builtin1 (PyProof.Rows.args_cons (raw_loc e0 hk hn hm (PyProof.Rows.args_cons (raw_blt e0 R gT mT bT (PyProof.Rows.args_nil ?_) hnT hdT) s2) hd) s1) s1 hpl
  exact PySem.W.kia_one PySem.W.kitx_int R.kin True.intro hb (fun z => nomatch z) h
end
end K01

set_option Elab.async false
set_option linter.all false
set_option maxRecDepth 100000
set_option maxHeartbeats 4000000
namespace K01
open PySem PySem.Spec PyProof.Rows L2
/-- what is asked of the module's names -/
structure Nm (mg : Str → Option Value) : Prop where
  isinstance : mg "isinstance" = none
  int : mg "int" = none
  bool : mg "bool" = none
  tuple : mg "tuple" = none
  list : mg "list" = none
  str : mg "str" = none
  len : mg "len" = none
  all : mg "all" = none
  set : mg "set" = none
  range : mg "range" = none
  enumerate : mg "enumerate" = none
  sorted : mg "sorted" = none
  max : mg "max" = none
theorem boot_isinstance : bootBuiltins "isinstance" = some (.builtin "isinstance") := by decide +kernel
theorem boot_int' : bootBuiltins "int" = some (.type "int") := by decide +kernel
theorem boot_bool' : bootBuiltins "bool" = some (.type "bool") := by decide +kernel
theorem boot_tuple' : bootBuiltins "tuple" = some (.type "tuple") := by decide +kernel
theorem boot_list' : bootBuiltins "list" = some (.type "list") := by decide +kernel
theorem boot_str' : bootBuiltins "str" = some (.type "str") := by decide +kernel
theorem boot_all' : bootBuiltins "all" = some (.builtin "all") := by decide +kernel
theorem boot_sorted' : bootBuiltins "sorted" = some (.builtin "sorted") := by decide +kernel
theorem boot_max' : bootBuiltins "max" = some (.builtin "max") := by decide +kernel
section
variable {P : Program} {w : World} {K : PySem.W.Frag} {mg : Str → Option Value} {base : Heap}
/-- is_number(v, lo, hi) of ints, whatever frames run: nothing is changed -/
theorem isnum_raw {f : Addr} {fd : FuncData} {A : Around} {E : Value → Shared → Prop} {s : Shared} {v lo hi : Int} {t1 t2 t3 : Tok} (F : Fun K "is_number" "is_number" sNum f fd) (b : Binds K fd ["value", "low", "high"] []) (N : Nm mg)
    (R : Rw K mg s.heap) (hd : A.handled = none) (hdep : A.depth < recursionLimit) :
    wpAny (model P w) A (call (.ref f) [.int v t1, .int lo t2, .int hi t3]) (fun y s3 => y = .bool (decide (lo ≤ v) && decide (v ≤ hi)) ∧ Keeps s s3) E s := by
  obtain ⟨oc, od, kV, doc, pm, an, cdv, ct, osl, rfl, lk, hcd⟩ := F.ex
  have S := scNum
  refine wpAny_call ?_
  refine codeAny_call_function hdep (R.kin _ _ lk) rfl S.co S.gen rfl (PySem.W.codeRec_of R.kin hcd) (b s _ R.kin rfl _ _ _ _ ?_)
  refine wpAny_newFunctionEnv_cells S.kind (fun y hy => ?_) fun env he s1 x => ?_
  · rcases S.par y.1 (List.of_mem_zip hy).1 with q | q
    · exact .inl q
    · exact .inr ⟨q, PySem.W.cellsFrom_some _ _ _ (.inl q)⟩
  subst he
  have hk := x.toInCall.keep
  have R1 : Rw K mg s1.heap := R.keeps hk
  refine ⟨R1.lim, codeAny_func ?_⟩
  have hns := x.toInCall.ns
  have e0 : Ev0 (newEnv (defScope sNum) s.heap.objs.size mainGlobals (cellsFrom (s.heap.objs.size + 1) (defScope sNum).names []) ("is_number" ++ ".<locals>.") (some f) cdv none builtinsNs) := ⟨rfl, rfl, rfl⟩
  have nd : (["value", "low", "high"] : List Str).Nodup := by decide +kernel
  have m1 := bindL_get (kindOf := (newEnv (defScope sNum) s.heap.objs.size mainGlobals (cellsFrom (s.heap.objs.size + 1) (defScope sNum).names []) ("is_number" ++ ".<locals>.") (some f) cdv none builtinsNs).kindOf) (P := ["value", "low", "high"]) (vs := [Value.int v t1, .int lo t2, .int hi t3] ++ []) (i := 0) (x := "value") (v := .int v t1) (m := fun _ => none) nd rfl rfl rfl
  have m2 := bindL_get (kindOf := (newEnv (defScope sNum) s.heap.objs.size mainGlobals (cellsFrom (s.heap.objs.size + 1) (defScope sNum).names []) ("is_number" ++ ".<locals>.") (some f) cdv none builtinsNs).kindOf) (P := ["value", "low", "high"]) (vs := [Value.int v t1, .int lo t2, .int hi t3] ++ []) (i := 1) (x := "low") (v := .int lo t2) (m := fun _ => none) nd rfl rfl rfl
  have m3 := bindL_get (kindOf := (newEnv (defScope sNum) s.heap.objs.size mainGlobals (cellsFrom (s.heap.objs.size + 1) (defScope sNum).names []) ("is_number" ++ ".<locals>.") (some f) cdv none builtinsNs).kindOf) (P := ["value", "low", "high"]) (vs := [Value.int v t1, .int lo t2, .int hi t3] ++ []) (i := 2) (x := "high") (v := .int hi t3) (m := fun _ => none) nd rfl rfl rfl
  obtain ⟨h1, tk1, rfl, hk1⟩ := x.done
  have hns' : h1.Ns s.heap.objs.size _ := hns
  refine wpAny_execs_cons ?_
  refine wpAny_Return_some ?_
  refine BoolOp_and (raw_isint (K := K) (mg := mg) (m := _) (i := v) (tk := t1) e0 R1 rfl hns' m1 rfl N.isinstance rfl N.int boot_int' rfl fun k1 => wpAny_truthy_bool (PyProof.Rows.ite_tt ?_))
  refine BoolOp_and (UnaryOp_ (raw_isint (K := K) (mg := mg) (m := _) (i := v) (tk := t1) e0 R1 rfl hns' m1 rfl N.isinstance rfl N.bool boot_bool' rfl fun k2 => not_of (wpAny_truthy_bool (wpAny_truthy_bool (PyProof.Rows.ite_tt ?_)))))
  refine BoolOp_one ?_
  refine PyProof.Rows.Compare_chain (raw_loc e0 rfl hns' m2 (PyProof.Rows.chain_link (raw_loc e0 rfl hns' m1 (PyProof.Rows.le_int (wpAny_truthy_bool ?_)))))
  cases decide (lo ≤ v) with
  | false => exact PyProof.Rows.ite_ff ⟨rfl, h1, _, rfl, hk1⟩
  | true => exact PyProof.Rows.ite_tt (PyProof.Rows.chain_last (raw_loc e0 rfl hns' m3 (PyProof.Rows.le_int ⟨rfl, h1, _, rfl, hk1⟩)))
end
end K01

set_option Elab.async false
set_option linter.all false
set_option maxRecDepth 100000
set_option maxHeartbeats 4000000
namespace K01
open PySem PySem.Spec PyProof.Rows L2 GxR
/-- the element over an int at the name x of the generator's own frame: a test of it; s1: the state when the generator was made, P: the def's table -/
def EltI (X : Cx) (s1 : Shared) (P : Addr) (scope : Scope) (x : Str) (elt : Expr) (pb : Int → Bool) : Prop :=
  ∀ (cenv : Env) (A' : Around) (E' : Value → Shared → Prop) (c : Int) (t : Tok) (s₂ : Shared) (m₂ : Str → Option Value), A'.handled = none → A'.depth ≤ X.A.depth + 1 → A'.units ≤ X.A.units + 8 → cenv.scope = scope → Ev0 cenv →
    cenv.cells = cloFrom X.env.cells scope.names [] → s₂.heap.Ns cenv.locals m₂ → m₂ x = some (.int c t) → (∀ b o, b ≠ P → s1.heap.get? b = some o → s₂.heap.get? b = some o) →
    wpAny (model X.prog X.w) A' (eval elt cenv) (fun y s₃ => y = .bool (pb c) ∧ Keeps s₂ s₃) E' s₂
def trI (pb : Int → Bool) (l : List Int) (j : Nat) : Bool := match l[j]? with
  | some b => pb b
  | none => false
theorem trI_some {pb : Int → Bool} {l : List Int} {j : Nat} {b : Int} (h : l[j]? = some b) : trI pb l j = pb b := by
  unfold trI
  rw [h]
theorem all_trI (l : List Int) (pb : Int → Bool) : (List.range l.length).all (trI pb l) = l.all pb := by
  rw [Bool.eq_iff_iff, List.all_eq_true, List.all_eq_true]
  constructor
  · intro h b hb
    obtain ⟨j, hj, e⟩ := List.getElem_of_mem hb
    have q := h j (List.mem_range.mpr hj)
    rw [trI_some (List.getElem?_eq_getElem hj), e] at q
    exact q
  · intro h j hj
    have hj' := List.mem_range.mp hj
    rw [trI_some (List.getElem?_eq_getElem hj')]
    exact h _ (List.getElem_mem hj')
section
variable {X : Cx} {pins : List (Addr × Obj)} {σ : L2.St} {H : Hp} {s : Shared}
def ReadyI (X : Cx) (pins : List (Addr × Obj)) (σ : L2.St) (H1 : Hp) (P : Addr) (ns : List Int) (pb : Int → Bool) (g : Addr) (s5 : Shared) : Prop :=
  ∃ (fp wr : List Addr) (G : Array GenState → Array GenState → Prop) (F : Nat → Value → Prop) (St : Nat → Shared → Prop),
    WalksS X.prog X.w X.A.in1 g fp wr G ns.length F St ∧ St 0 s5 ∧
    TruthOf X.prog X.w X.A.in1 F (trI pb ns) ∧
    ∀ s', Moved wr G s5 s' → ∃ H2, Tabbed P H1 H2 ∧ Inv X pins σ H2 s'
theorem gen_tup {c P : Addr} {elt iter : Expr} {x : Str} {px gpos : Pos} {scope : Scope} {te : TE} {k : Nat} {Q' : Value → Shared → Prop} {R : List Int → (Int → Bool) → Hp → Prop} {C : (Int → Bool) → L2.St → Hp → Prop}
    (hr : Room k X.A) (TB : TabB X.base X.mg c P) (hcode : X.env.code = .ref c) (S : GenS X.env scope x) (hi : PE X iter te)
    (hel : ∀ pins σ H s pb, Inv X pins σ H s → TabG H P → C pb σ H → EltI X s P scope x elt pb)
    (hs : ∀ v, genFold iter X.env v = pure v) (I : Inv X pins σ H s) (h : te σ H fun v H1 => ∃ (a : Addr) (ns : List Int) (pb : Int → Bool), v = .ref a ∧ SqT X.K H1 a (ns.map V.int) ∧ C pb σ H1 ∧ TabG H1 P ∧ R ns pb H1)
    (hQ : ∀ ns pb H1 g s5, R ns pb H1 → ReadyI X pins σ H1 P ns pb g s5 → Q' (.ref g) s5) :
    wpAny (model X.prog X.w) X.A (eval (.GeneratorExp elt [⟨.Name x px, iter, [], 0⟩] scope gpos) X.env) Q' X.xe s := by
  refine wpAny_GeneratorExp_walksQD hr.hd S.co (closure_ok S.free) S.cell S.dot S.loc S.kind (by have := hr.dp; omega) ?_ hs
  refine thn (hi.run pins s σ H _ I h) fun xv s1 ⟨v, H1, I1, r1, q1⟩ => ?_
  obtain ⟨a, ns, pb, rfl, hT, hC, ⟨ps, hP, ht⟩, q1⟩ := q1
  cases r1
  obtain ⟨its, rv, pl, hz⟩ := I1.tuple hT
  have hlen : its.toArray.size = ns.length := by rw [List.size_toArray, ← rv.length, List.length_map]
  have hel1 := hel pins σ H1 s1 pb I1 ⟨ps, hP, ht⟩ hC
  have hPs : s1.heap.get? P = some { cls := .none, data := .fields ps } := I1.hok P _ hP
  have hPlt : P < s1.heap.objs.size := Heap.lt_size hPs
  have halt : a < s1.heap.objs.size := by obtain ⟨o, ho, _⟩ := pl; exact Heap.lt_size ho
  have haP : a ≠ P := fun e => by
    obtain ⟨o, ho, hc, _⟩ := pl
    rw [e, hPs] at ho
    cases ho
    cases hc
  refine wpAny_pyIter_tuple (show s1.heap.IsTuple a its.toArray from pl) ?_
  generalize ho : ({ cls := .type "tuple_iterator", data := .fields #[.ref a, .int 0 0] } : Obj) = o
  have hof : o.isFreed = false := by rw [← ho]; rfl
  have hP2 : (s1.heap.push o).get? P = some { cls := .none, data := .fields ps } := Heap.get?_push_of_some _ hPs
  have cd : PySem.W.CodeHd (s1.heap.push o) c P := TB.code.keeps fun b u e => Heap.get?_push_of_some _ (I1.bk b u e)
  have lim2 : (s1.heap.push o).NoLimit := I1.nolimit.push o
  have cont : ∀ (code : Value) (h3 : Heap) (tk : Nat) (ps' : Array Value), Heap.ExtBut P (s1.heap.push o) h3 → (s1.heap.push o).objs.size ≤ h3.objs.size → h3.get? P = some { cls := .none, data := .fields ps' } → (∃ more, ps' = ps ++ more) → TriplesOk ps'.toList →
      wpAny (model X.prog X.w) X.A (builtinsFor X.env.globals X.env.builtins) (fun bi s₄ =>
        ∃ Ia fp wr n₀ Pf St₀ pz F, Value.ref s1.heap.objs.size = .ref Ia ∧ (∀ A' : Around, A'.handled = none → Walks X.prog X.w A' Ia fp wr n₀ Pf St₀) ∧ St₀ 0 s₄.heap ∧ (∀ b ∈ fp, b < s₄.heap.objs.size) ∧ s₄.heap.NoLimit ∧ cStatics ∉ wr ∧
          (∀ href : Heap, (∀ b o, s₄.heap.get? b = some o → href.get? b = some o) →
            QuietGenD X.prog X.w (genEnv scope (cloFrom X.env.cells scope.names []) s₄.heap.objs.size code bi X.env) x [] elt (List.range s₄.heap.objs.size) wr Pf pz F href (X.A.depth + 1) (X.A.units + 8)) ∧
          (∀ a h₅ tk gs, gs.bare = true → s₄.heap.objs.size < a → h₅.objs.size = a + 1 → (∀ b o, s₄.heap.get? b = some o → h₅.get? b = some o) →
            WalksS X.prog X.w X.A.in4 a (a :: s₄.heap.objs.size :: List.range s₄.heap.objs.size) (s₄.heap.objs.size :: wr) (GenOnlyQ s₄.gens.size) (passing pz n₀ 0).length
              (fun j y => ∃ i, (passing pz n₀ 0)[j]? = some i ∧ F i y) (GenAt X.prog X.w X.A.in4 a s₄.gens.size s₄.heap.objs.size (List.range s₄.heap.objs.size) wr pz n₀ F) →
            GenAt X.prog X.w X.A.in4 a s₄.gens.size s₄.heap.objs.size (List.range s₄.heap.objs.size) wr pz n₀ F 0 { s₄ with gens := s₄.gens.push gs, toks := tk, heap := h₅ } →
            Q' (.ref a) { s₄ with gens := s₄.gens.push gs, toks := tk, heap := h₅ })) X.xe { s1 with heap := h3, toks := tk } := by
    intro code h3 tk ps' hx hsz hP3 hmore ht3
    obtain ⟨bm, ob, e1, e2, e3, e4, e5, e6, e7, e8⟩ := TB.bm
    have hcP : cStatics ≠ P := fun e => by
      obtain ⟨_, hns, _⟩ := I1.nolimit
      obtain ⟨o', es, ep, ho, hd, _⟩ := hns
      rw [e, hPs] at ho
      cases ho
      cases hd
    have hcl : cStatics < s1.heap.objs.size := let ⟨_, hns, _⟩ := I1.nolimit; hns.lt
    have sz2 : (s1.heap.push o).objs.size = s1.heap.objs.size + 1 := Heap.size_push ..
    have keep3 : ∀ b u, b ≠ P → s1.heap.get? b = some u → h3.get? b = some u := fun b u hb e => hx b u hb (Heap.get?_push_of_some _ e)
    have hlt3 : s1.heap.objs.size < h3.objs.size := by omega
    have keepI : h3.get? s1.heap.objs.size = some o := hx _ _ (Nat.ne_of_gt hPlt) (Heap.get?_push_size _ hof)
    refine wpAny_builtinsFor (m := X.mg) (by rw [I1.ok.glob]; exact ((I1.mod.glob.keeps I1.bk).push o).extBut hx TB.gP) e1 e2 (keep3 _ _ e4 (I1.bk _ _ e5)) e6 e7 e8 ?_
    refine ⟨s1.heap.objs.size, [s1.heap.objs.size, a], [s1.heap.objs.size], its.toArray.size, (fun i v => its.toArray[i]? = some v), (fun i h => h.IsTupleIter s1.heap.objs.size a i ∧ h.IsTuple a its.toArray), (fun _ => true), (fun i y => ∃ cc, ns[i]? = some cc ∧ y = .bool (pb cc)), rfl,
      fun A' hA => Walks.tuple hA s1.heap.objs.size a (Nat.ne_of_lt halt) its.toArray, ?_, ?_, lim2.extBut hx hcP, ?_, ?_, ?_⟩
    · refine ⟨⟨o, keepI, by rw [← ho], by rw [← ho]; rfl⟩, ?_⟩
      obtain ⟨oa, h1, r⟩ := (show s1.heap.IsTuple a its.toArray from pl)
      exact ⟨oa, keep3 a oa haP h1, r⟩
    · intro b hb
      show b < h3.objs.size
      rcases List.mem_cons.mp hb with z | z
      · rw [z]
        exact hlt3
      · rw [List.mem_singleton.mp z]
        exact Nat.lt_trans halt hlt3
    · intro z
      rcases List.mem_cons.mp z with z | z
      · exact Nat.ne_of_lt hcl z
      · cases z
    · intro href hhref
      have ofits : ∀ {i : Nat} {v : Value}, its.toArray[i]? = some v → ∃ cc u, ns[i]? = some cc ∧ v = .int cc u := fun {i v} hv => by
        have hv' : its[i]? = some v := by simpa using hv
        cases hns : ns[i]? with
        | none =>
          have h1 := List.getElem?_eq_none_iff.mp hns
          have h2 := (List.getElem?_eq_some_iff.mp hv').1
          rw [List.size_toArray] at hlen
          omega
        | some cc =>
          obtain ⟨u, hu, ru⟩ := rv.get (i := i) (x := V.int cc) (by rw [List.getElem?_map, hns]; rfl)
          rw [hv'] at hu
          cases hu
          obtain ⟨t, rfl⟩ := ru
          exact ⟨cc, t, rfl, rfl⟩
      refine ⟨fun A' E' i v s₂ m₂ hA _ _ hPv hn hm hk => ?_, fun A' E' i v s₂ m₂ hA hd hu hPv hp hn hm hk => ?_⟩
      · simp only [List.forIn_nil]
        exact wpAny_pure ⟨rfl, keeps_refl _⟩
      · obtain ⟨cc, u, hcc, rfl⟩ := ofits hPv
        refine wpAny_mono (hel1 _ A' E' cc u s₂ m₂ hA hd hu rfl ⟨S.kind, I1.ok.glob, rfl⟩ rfl hn hm fun b ob hb e => ?_) (fun y s3 r => ⟨⟨cc, hcc, r.1⟩, r.2⟩) fun _ _ e => e
        have hlt : b < s1.heap.objs.size := Heap.lt_size e
        refine hk b (List.mem_range.mpr ?_) (fun z => ?_) ob (hhref b ob (keep3 b ob hb e))
        · exact Nat.lt_trans hlt hlt3
        · rw [List.mem_singleton.mp z] at hlt
          exact Nat.lt_irrefl _ hlt
    · intro g h5 tk5 gs hgb hag hsz5 hk5 W5 hat
      simp only [GxR.passing_true, List.length_range] at W5
      refine hQ ns pb H1 g _ q1 ?_
      unfold ReadyI
      rw [← hlen]
      refine ⟨_, _, _, _, _, W5.in4_1, hat, ?_, fun s' hm => ?_⟩
      · intro j y sj Qj Ej hy hQj
        obtain ⟨i, hij, cc, hcc, rfl⟩ := hy
        obtain ⟨hj, ej⟩ := List.getElem?_eq_some_iff.mp hij
        rw [List.getElem_range] at ej
        subst ej
        have hQ2 : Qj (trI pb ns j) sj := hQj
        rw [trI_some hcc] at hQ2
        exact wpAny_truthy_bool hQ2
      · obtain ⟨more, em⟩ := hmore
        have nwr : ∀ b u, s1.heap.get? b = some u → b ∉ h3.objs.size :: [s1.heap.objs.size] := fun b u e hb => by
          have hl := Heap.lt_size e
          rcases List.mem_cons.mp hb with z | z
          · rw [z] at hl
            have h9 : (h3.objs.size : Nat) < s1.heap.objs.size := hl
            omega
          · rcases List.mem_cons.mp z with z | z
            · rw [z] at hl
              exact Nat.lt_irrefl _ hl
            · cases z
        have J := inv_tab (more := more) (h' := s'.heap) (g' := s'.gens) (d' := s'.drawn) (t' := s'.toks) I1 hP (fun b u hb e => hm.heap b u (nwr b u e) (hk5 b u (keep3 b u hb e)))
          (by rw [← em]; exact hm.heap P _ (nwr P _ hPs) (hk5 P _ hP3)) (AllBare.movedS (I1.bare.push hgb) hm)
        rw [sh_eta s1 s' hm.os] at J
        refine ⟨upd H1 P (.tbl (ps ++ more)), ⟨⟨ps ++ more, upd_same, by rw [← em]; exact ht3⟩, fun b hb => upd_ne hb⟩, J⟩
  refine ⟨lim2, ?_⟩
  cases hf : codeAmong gpos ps.toList with
  | none =>
    refine wpAny_genexprCodeX hcode (cd.code hP2 ht) (cd.tab hP2) hf fun c' h' tk hx hge hlt hco' _ htab' _ => ?_
    obtain ⟨o1, vs, f1, tf, fl, tg, inF, tx, tt, op, _, _, _, _, _, _, _, _, _, htr, _⟩ := hco'
    exact cont _ h' tk _ hx (Nat.le_trans hge (Nat.le_of_lt hlt)) htab'.2 ⟨_, rfl⟩ htr
  | some cv =>
    refine wpAny_genexprCode_hit hcode (cd.code hP2 ht) hf ?_
    exact cont cv (s1.heap.push o) s1.toks ps (Heap.ExtBut.refl _ _) (Nat.le_refl _) hP2 ⟨#[], by simp⟩ ht
/-- all(test for x in t) -/
def tAllI (K : PySem.W.Frag) (P : Addr) (C : (Int → Bool) → L2.St → Hp → Prop) (te : TE) : TE := fun σ H Q => te σ H fun v H1 => ∃ (a : Addr) (ns : List Int) (pb : Int → Bool), v = .ref a ∧ SqT K H1 a (ns.map V.int) ∧ C pb σ H1 ∧ TabG H1 P ∧ ∀ H2, Tabbed P H1 H2 → Q (.bl (ns.all pb)) H2
theorem pe_allI {c P : Addr} {elt iter : Expr} {x : Str} {px p pos gpos : Pos} {scope : Scope} {te : TE} {k : Nat} {C : (Int → Bool) → L2.St → Hp → Prop}
    (hr : Room k X.A) (hg : Gl X "all") (hm : X.mg "all" = none) (TB : TabB X.base X.mg c P) (hcode : X.env.code = .ref c) (S : GenS X.env scope x) (hi : PE X iter te)
    (hel : ∀ pins σ H s pb, Inv X pins σ H s → TabG H P → C pb σ H → EltI X s P scope x elt pb)
    (hs : ∀ v, genFold iter X.env v = pure v)
    (he : starEach [.GeneratorExp elt [⟨.Name x px, iter, [], 0⟩] scope gpos] X.env = (false, eval (.GeneratorExp elt [⟨.Name x px, iter, [], 0⟩] scope gpos) X.env) :: starEach [] X.env := by rfl) :
    PE X (.Call (.Name "all" p) [.GeneratorExp elt [⟨.Name x px, iter, [], 0⟩] scope gpos] [] pos) (tAllI X.K P C te) := by
  refine ⟨fun pins s σ H Q I h => ?_⟩
  refine wpAny_Call_Name_kw (ld_blt I hg hm boot_all' ?_)
  refine PyProof.Rows.callWith_builtin1 ?_ he (by rfl)
  rw [he]
  show wpAny _ _ (spliced ((false, eval (.GeneratorExp elt [⟨.Name x px, iter, [], 0⟩] scope gpos) X.env) :: backTo pos (starEach [] X.env))) _ _ s
  refine Calls.spliced_cons (gen_tup (R := fun ns pb H1 => ∀ H2, Tabbed P H1 H2 → Q (.bl (ns.all pb)) H2) hr TB hcode S hi hel hs I h fun ns pb H1 g s5 hR hG => ?_)
  obtain ⟨fp, wr, G, F, St, W, hst, htr, hI⟩ := hG
  refine Calls.spliced_nil ?_
  refine call_all_walkS (W.self 0 _ _ _ hst ⟨g, fp, wr, G, _, F, St, _, rfl, W, hst, htr, fun s' hmv => ?_⟩)
  obtain ⟨H2, hT, J⟩ := hI s' hmv
  refine ⟨.bl _, H2, J, rfl, ?_⟩
  rw [all_trI ns pb]
  exact hR H2 hT
end
end K01

set_option Elab.async false
set_option linter.all false
set_option maxRecDepth 100000
set_option maxHeartbeats 4000000
namespace K01
open PySem PySem.Spec PyProof.Rows L2 GxR
section
variable {X : Cx} {pins : List (Addr × Obj)} {σ : L2.St} {H : Hp} {s : Shared}
theorem rw_of {P : Addr} {h : Heap} (I : Inv X pins σ H s) (hT : TabG H P) (k : ∀ b o, b ≠ P → s.heap.get? b = some o → h.get? b = some o) : Rw X.K X.mg h := by
  obtain ⟨ps, hP, _⟩ := hT
  have kb : ∀ b o, X.base.get? b = some o → h.get? b = some o := fun b o e => by
    obtain ⟨e1, e2⟩ := I.bs b o e
    exact k b o (fun z => by rw [z, hP] at e2; cases e2) e1
  exact ⟨I.mod.kin.keeps kb, I.mod.glob.keeps kb, let ⟨mb, a, b⟩ := I.mod.blt; ⟨mb, a.keeps kb, b⟩, I.mod.nolimit.keeps kb⟩
theorem captured {i : Nat} {x : Str} {v : V} (I : Inv X pins σ H s) (hN : X.N[i]? = some x) (hσ : σ[i]? = some (some v)) (hc : X.env.kindOf x = some .cell) : ∃ c u, X.env.cells.lookup x = some c ∧ RelV v u ∧ s.heap.IsCell c (some u) ∧ H c = none := by
  obtain ⟨m, _, hl⟩ := I.loc
  obtain ⟨u, r, l⟩ := hl i x v hN hσ (.inr (.inl hc))
  rcases l with ⟨hk, _⟩ | ⟨_, c, e, z⟩
  · rw [hc] at hk
    cases hk
  · exact ⟨c, u, e, r, z, I.freeC x c e⟩
theorem cell_kept {P c : Addr} {u : Value} {h : Heap} (hT : TabG H P) (hn : H c = none) (z : s.heap.IsCell c (some u)) (k : ∀ b o, b ≠ P → s.heap.get? b = some o → h.get? b = some o) : h.IsCell c (some u) := by
  obtain ⟨ps, hP, _⟩ := hT
  obtain ⟨o, e, d⟩ := z
  exact ⟨o, k c o (fun q => by rw [q, hP] at hn; cases hn) e, d⟩
theorem keeps_trans {s s1 s2 : Shared} (a : Keeps s s1) (b : Keeps s1 s2) : Keeps s s2 := by
  obtain ⟨h1, t1, rfl, k1⟩ := a
  obtain ⟨h2, t2, rfl, k2⟩ := b
  exact ⟨h2, t2, rfl, fun b o e => k2 b o (k1 b o e)⟩
/-- is_number(x, 0, m - 1), m captured -/
theorem elt_many {P f : Addr} {fd : FuncData} {scope : Scope} {x y : Str} {i : Nat} {m : Int} {p1 p2 p3 p4 p5 p6 pos : Pos} {j1 j2 : Nat} (F : Fun X.K "is_number" "is_number" sNum f fd) (b : Binds X.K fd ["value", "low", "high"] []) (N : Nm X.mg) (hf : X.mg "is_number" = some (.ref f))
    (hu : X.A.depth + 2 < recursionLimit) (hsn : scope.names.lookup ("is_number" : Str) = some .globalImplicit) (hsx : scope.names.lookup x = some .local) (hsy : scope.names.lookup y = some .free) (hmem : (y, NameKind.free) ∈ scope.names)
    (hfree : ∀ z ∈ scope.names, z.2 = .free → ∃ c, X.env.cells.lookup z.1 = some c) (hdx : (x == ("__debug__" : Str)) = false) (hdy : (y == ("__debug__" : Str)) = false) (hcy : (y == ("__classdict__" : Str)) = false)
    (hN : X.N[i]? = some y) (hc : X.env.kindOf y = some .cell) (I : Inv X pins σ H s) (hT : TabG H P) (hσ : σ[i]? = some (some (.int m))) :
    EltI X s P scope x (.Call (.Name "is_number" p1) [.Name x p2, .Constant (.int 0) j1 p3, .BinOp (.Name y p4) .Sub (.Constant (.int 1) j2 p5) p6] [] pos) (fun c => decide (0 ≤ c) && decide (c ≤ m - 1)) := by
  intro cenv A' E' c t s₂ m₂ hA hd hu' hsc e0 hcl hns hm k
  have R := rw_of I hT k
  obtain ⟨cc, u, e1, ru, z, hn⟩ := captured I hN hσ hc
  obtain ⟨tk, rfl⟩ := ru
  have z2 := cell_kept hT hn z k
  have lk : cenv.cells.lookup y = some cc := by rw [hcl]; exact NdefX.clo_has hfree hmem e1
  refine wpAny_Call_Name_kw (raw_glob e0 R (by show cenv.scope.names.lookup _ = _; rw [hsc]; exact hsn) hf ?_)
  refine PySem.W.callWith_K (h₀ := X.base) I.mod.kin F.kp ?_ rfl rfl
  refine PyProof.Rows.args_cons (raw_loc e0 (by show cenv.scope.names.lookup _ = _; rw [hsc]; exact hsx) hns hm ?_ hdx) rfl
  refine PyProof.Rows.args_cons (wpAny_Constant_int ?_) rfl
  refine PyProof.Rows.args_cons (wpAny_BinOp (raw_free e0 (by show cenv.scope.names.lookup _ = _; rw [hsc]; exact hsy) lk z2 ?_ hdy hcy)) rfl
  refine wpAny_Constant_int (sub_int ?_)
  refine PyProof.Rows.args_nil ⟨R.kin, ?_⟩
  refine wpAny_mono (isnum_raw (K := X.K) (mg := X.mg) F b N R hA (by omega)) (fun y s3 r => ⟨r.1, keeps_trans (keeps_tok s₂ _) r.2⟩) fun _ _ e => e
end
end K01

set_option Elab.async false
set_option linter.all false
set_option maxRecDepth 100000
set_option maxHeartbeats 4000000
namespace K01
open PySem PySem.Spec PyProof.Rows L2 GxR
section
variable {X : Cx} {pins : List (Addr × Obj)} {σ : L2.St} {H : Hp} {s : Shared}
/-- is_number(x, 0, len(y) - 1), y a captured tuple -/
theorem elt_len {P f : Addr} {fd : FuncData} {scope : Scope} {x y : Str} {i : Nat} {a : Addr} {xs : List V} {p1 p2 p3 p4 p5 p6 p7 p8 pos : Pos} {j1 j2 : Nat} (F : Fun X.K "is_number" "is_number" sNum f fd) (b : Binds X.K fd ["value", "low", "high"] []) (N : Nm X.mg) (hf : X.mg "is_number" = some (.ref f))
    (hu : X.A.depth + 2 < recursionLimit) (hsn : scope.names.lookup ("is_number" : Str) = some .globalImplicit) (hsl : scope.names.lookup ("len" : Str) = some .globalImplicit) (hsx : scope.names.lookup x = some .local) (hsy : scope.names.lookup y = some .free) (hmem : (y, NameKind.free) ∈ scope.names)
    (hfree : ∀ z ∈ scope.names, z.2 = .free → ∃ c, X.env.cells.lookup z.1 = some c) (hdx : (x == ("__debug__" : Str)) = false) (hdy : (y == ("__debug__" : Str)) = false) (hcy : (y == ("__classdict__" : Str)) = false)
    (hN : X.N[i]? = some y) (hc : X.env.kindOf y = some .cell) (hsv : ∀ env : Env, starEach [.Name y p4] env = (false, eval (.Name y p4) env) :: starEach [] env) (I : Inv X pins σ H s) (hT : TabG H P) (hσ : σ[i]? = some (some (.ref a))) (hA : H a = some (.tup xs)) :
    EltI X s P scope x (.Call (.Name "is_number" p1) [.Name x p2, .Constant (.int 0) j1 p3, .BinOp (.Call (.Name "len" p7) [.Name y p4] [] p8) .Sub (.Constant (.int 1) j2 p5) p6] [] pos) (fun c => decide (0 ≤ c) && decide (c ≤ xs.length - 1)) := by
  intro cenv A' E' c t s₂ m₂ hAr hd hu' hsc e0 hcl hns hm k
  have R := rw_of I hT k
  obtain ⟨cc, u, e1, ru, z, hn⟩ := captured I hN hσ hc
  cases ru
  have z2 := cell_kept hT hn z k
  have lk : cenv.cells.lookup y = some cc := by rw [hcl]; exact NdefX.clo_has hfree hmem e1
  obtain ⟨its, rv, pl, hz⟩ := I.tuple (show SqT X.K H a xs from .inl (.inl hA))
  have haP : a ≠ P := fun q => by
    obtain ⟨ps, hP, _⟩ := hT
    rw [q, hP] at hA
    cases hA
  have pl2 : s₂.heap.IsTuple a its.toArray := by
    obtain ⟨oa, h1, r⟩ := (show s.heap.IsTuple a its.toArray from pl)
    exact ⟨oa, k a oa haP h1, r⟩
  have hlen : its.toArray.size = xs.length := by rw [List.size_toArray, ← rv.length]
  have hfit : (its.toArray.size : Int) < 2 ^ 63 := by
    have : its.toArray.size ≤ sizeLine := by rw [hlen]; exact hz
    have h2 : (sizeLine : Int) < 2 ^ 63 := by decide
    omega
  refine wpAny_Call_Name_kw (raw_glob e0 R (by show cenv.scope.names.lookup _ = _; rw [hsc]; exact hsn) hf ?_)
  refine PySem.W.callWith_K (h₀ := X.base) I.mod.kin F.kp ?_ rfl rfl
  refine PyProof.Rows.args_cons (raw_loc e0 (by show cenv.scope.names.lookup _ = _; rw [hsc]; exact hsx) hns hm ?_ hdx) rfl
  refine PyProof.Rows.args_cons (wpAny_Constant_int ?_) rfl
  refine PyProof.Rows.args_cons (wpAny_BinOp ?_) rfl
  refine wpAny_Call_Name_kw (raw_blt e0 ⟨R.kin, R.glob, R.blt, R.lim⟩ (by show cenv.scope.names.lookup _ = _; rw [hsc]; exact hsl) N.len PySem.boot_len ?_)
  refine PyProof.Rows.callWith_builtin1 (PyProof.Rows.args_cons (raw_free e0 (by show cenv.scope.names.lookup _ = _; rw [hsc]; exact hsy) lk z2 (PyProof.Rows.args_nil ?_) hdy hcy) (hsv cenv)) (hsv cenv) rfl
  refine PyProof.Rows.len_tuple pl2 hfit ?_
  refine wpAny_Constant_int (sub_int ?_)
  refine PyProof.Rows.args_nil ⟨R.kin, ?_⟩
  rw [hlen]
  refine wpAny_mono (isnum_raw (K := X.K) (mg := X.mg) F b N ⟨R.kin, R.glob, R.blt, R.lim⟩ hAr (by omega)) (fun y s3 r => ⟨r.1, keeps_trans (keeps_tok s₂ _) r.2⟩) fun _ _ e => e
end
/-! ### heaps: what stood stands, tables stay tables; w: the one thing that may have changed -/
structure Ext (w : Option Addr) (H H' : Hp) : Prop where
  keep : ∀ b o, some b ≠ w → H b = some o → (∀ ps, o ≠ .tbl ps) → H' b = some o
  dom : ∀ b, H' b = none → H b = none
  tab : ∀ P, TabG H P → TabG H' P
theorem upd_none {H : Hp} {p b : Addr} {o : HO} (h : upd H p o b = none) : H b = none := by
  by_cases e : b = p
  · rw [e, upd_same] at h
    cases h
  · rwa [upd_ne e] at h
theorem tabG_ne {H : Hp} {P p : Addr} {o : HO} (t : TabG H P) (e : H p = some o) (h : ∀ ps, o ≠ .tbl ps) : P ≠ p := fun z => by
  obtain ⟨ps, e2, _⟩ := t
  rw [z, e] at e2
  exact h ps (Option.some.inj e2)
section
variable {w : Option Addr} {H H' H'' : Hp}
theorem Ext.refl : Ext w H H := ⟨fun _ _ _ e _ => e, fun _ h => h, fun _ h => h⟩
theorem Ext.trans (a : Ext w H H') (b : Ext w H' H'') : Ext w H H'' := ⟨fun c o n e q => b.keep c o n (a.keep c o n e q) q, fun c h => a.dom c (b.dom c h), fun P h => b.tab P (a.tab P h)⟩
theorem Ext.any (a : Ext none H H') : Ext w H H' := ⟨fun c o _ e q => a.keep c o (fun z => nomatch z) e q, a.dom, a.tab⟩
theorem Ext.new {p : Addr} {o : HO} (h : H p = none) : Ext w H (upd H p o) := ⟨fun b x _ e _ => by rw [upd_ne (ne_of_none e h)]; exact e, fun _ e => upd_none e, fun P ⟨ps, e, t⟩ => ⟨ps, by rw [upd_ne (ne_of_none e h)]; exact e, t⟩⟩
/-- a change at a place that was free -/
theorem Ext.set {p : Addr} {o o' : HO} (a : Ext w H H') (h : H p = none) (e : H' p = some o) (hn : ∀ ps, o ≠ .tbl ps) : Ext w H (upd H' p o') :=
  ⟨fun b x n e q => by rw [upd_ne (ne_of_none e h)]; exact a.keep b x n e q, fun b e => a.dom b (upd_none e), fun P t => by
    have t' := a.tab P t
    have ne := tabG_ne t' e hn
    obtain ⟨ps, e2, z⟩ := t'
    exact ⟨ps, by rw [upd_ne ne]; exact e2, z⟩⟩
/-- a change at w itself -/
theorem Ext.row {p : Addr} {o o' : HO} (a : Ext (some p) H H') (e : H' p = some o) (hn : ∀ ps, o ≠ .tbl ps) : Ext (some p) H (upd H' p o') :=
  ⟨fun b x n e2 q => by rw [upd_ne (fun z => n (by rw [z]))]; exact a.keep b x n e2 q, fun b e => a.dom b (upd_none e), fun P t => by
    have t' := a.tab P t
    have ne := tabG_ne t' e hn
    obtain ⟨ps, e2, z⟩ := t'
    exact ⟨ps, by rw [upd_ne ne]; exact e2, z⟩⟩
theorem Ext.tabbed {P : Addr} (h : TabG H P) (t : Tabbed P H H') : Ext w H H' := by
  refine ⟨fun b o _ e q => ?_, fun b e => ?_, fun P' h' => ?_⟩
  · rw [t.2 b (fun z => by obtain ⟨ps, e2, _⟩ := h; rw [z, e2] at e; exact q ps (Option.some.inj e).symm)]
    exact e
  · by_cases z : b = P
    · obtain ⟨ps, e2, _⟩ := t.1
      rw [z, e2] at e
      cases e
    · rw [t.2 b z] at e
      exact e
  · by_cases z : P' = P
    · rw [z]; exact t.1
    · obtain ⟨ps, e, r⟩ := h'
      exact ⟨ps, by rw [t.2 P' z]; exact e, r⟩
theorem Ext.tup {a : Addr} {xs : List V} (x : Ext none H H') (e : H a = some (.tup xs)) : H' a = some (.tup xs) := x.keep a _ (fun z => nomatch z) e fun ps z => nomatch z
theorem Ext.lst {a : Addr} {xs : List V} (x : Ext none H H') (e : H a = some (.lst xs)) : H' a = some (.lst xs) := x.keep a _ (fun z => nomatch z) e fun ps z => nomatch z
theorem Ext.dT {a : Addr} {xs : List (List Key × V)} (x : Ext none H H') (e : H a = some (.dT xs)) : H' a = some (.dT xs) := x.keep a _ (fun z => nomatch z) e fun ps z => nomatch z
theorem Ext.tups {bs : List Addr} {ls : List (List Int)} (x : Ext none H H') (t : TupsAt H bs ls) : TupsAt H' bs ls := Paired.mono (fun b l e => x.tup e) t
end
/-- the tuple of ints at a -/
def IntT (H : Hp) (a : Addr) (L : List Int) : Prop := H a = some (.tup (L.map V.int))
/-- the tuple of tuples of ints at a -/
def HabAt (H : Hp) (a : Addr) (h : List (List Int)) : Prop := ∃ bs, H a = some (.tup (bs.map V.ref)) ∧ TupsAt H bs h
section
variable {w : Option Addr} {H H' : Hp} {a : Addr}
theorem IntT.ext {L : List Int} (h : IntT H a L) (x : Ext none H H') : IntT H' a L := x.tup h
theorem HabAt.ext {h : List (List Int)} (t : HabAt H a h) (x : Ext none H H') : HabAt H' a h := let ⟨bs, e, r⟩ := t; ⟨bs, x.tup e, x.tups r⟩
theorem IntT.sq {K : PySem.W.Frag} {L : List Int} (h : IntT H a L) : SqT K H a (L.map V.int) := .inl (.inl h)
theorem IntT.not_row {L : List Int} {r : Addr} {xs : List V} (h : IntT H a L) (e : H r = some (.lst xs)) : a ≠ r := fun z => by unfold IntT at h; rw [z, e] at h; cases h
end
end K01

set_option Elab.async false
set_option linter.all false
set_option maxRecDepth 100000
set_option maxHeartbeats 4000000
namespace K01
open PySem PySem.Spec PyProof.Rows L2 GxR
section
variable {P : Program} {w : World} {K : PySem.W.Frag} {mg : Str → Option Value} {base : Heap}
/-- Fun.ok, the def's code object told -/
theorem fun_okC {x qual : Str} {st : Stmt} {f c : Addr} {fd : FuncData} {N ps : List Str} {k : Nat} {sp : Sp} (F : Fun K x qual st f fd) (hc : fd.code = .ref c) (S : FnScope N ps (defScope st)) (len : ∀ vs H Q E, sp vs H Q E → vs.length = ps.length)
    (hbody : ∀ (A : Around) (outer : List Env) (s : Shared) (H : Hp) (vs : List V) (Q : VK) (E : XK), Room k (A.deeper (envOfC qual (defScope st) s.heap.objs.size f (.ref c))) → sp vs H Q E →
      ∃ t, PSs (cxOf CX0 P w K mg base N qual (defScope st) f (.ref c) A outer s H E).nox (defBody st) t ∧ t { nx := fun _ H' => Q .non H', rt := Q } (start N vs) H) : FnOk P w K mg base CX0 (k + 1) f fd ps sp := by
  obtain ⟨oc, od, kV, doc, pm, an, cdv, ct, osl, rfl, lk, hcd⟩ := F.ex
  have e : cdv = .ref c := hc
  subst e
  refine fn_of lk hcd S len fun A outer s H vs Q E hr hsp => ?_
  obtain ⟨t, h, q⟩ := hbody A outer s H vs Q E hr hsp
  exact ⟨t, h.nox, q⟩
theorem free_cells {k : Addr} {sc g : Scope} (h : ∀ y ∈ g.names, y.2 = .free → sc.names.lookup y.1 = some .cell) : ∀ y ∈ g.names, y.2 = .free → ∃ c, (cellsFrom k sc.names []).lookup y.1 = some c := fun y hy e =>
  Option.isSome_iff_exists.mp (PySem.W.cellsFrom_some _ _ _ (.inl (h y hy e)))
theorem room_dp {k : Nat} {A : Around} (r : Room k A) : A.depth + 2 < recursionLimit := by have := r.dp; omega
/-! ### is_number -/
def spNum : Sp := fun vs H Q _ => ∃ v lo hi : Int, vs = [.int v, .int lo, .int hi] ∧ Q (.bl (decide (lo ≤ v) && decide (v ≤ hi))) H
theorem ok_num {f : Addr} {fd : FuncData} (F : Fun K "is_number" "is_number" sNum f fd) (N : Nm mg) : FnOk P w K mg base CX0 1 f fd ["value", "low", "high"] spNum := by
  refine F.ok scNum (fun vs H Q E h => ?_) (fun cdv A outer s H vs Q E hr h => ?_)
  · obtain ⟨a, b, c, rfl, _⟩ := h
    rfl
  · obtain ⟨v, lo, hi, rfl, q⟩ := h
    refine ⟨_, pss_one (ps_ret (pe_and (pe_callB call_isi (by rfl) N.isinstance boot_isinstance (pa_cons (pv 0) (pa_cons (pe_bltn (v := .ty "int") (by rfl) N.int boot_int' rfl) pa_nil)))
      (pe_and (pe_not (pe_callB call_isi (by rfl) N.isinstance boot_isinstance (pa_cons (pv 0) (pa_cons (pe_bltn (v := .ty "bool") (by rfl) N.bool boot_bool' rfl) pa_nil))))
      (pe_one (pe_chain op_le op_le (pv 1) (pv 0) (pv 2)))))), ?_⟩
    refine ⟨.int v, rfl, _, _, .type "int", .type "int", true, rfl, .ty _, .base (.int _), rfl, true, rfl, iteT ?_⟩
    refine ⟨.int v, rfl, _, _, .type "int", .type "bool", false, rfl, .ty _, .base (.int _), rfl, false, rfl, true, rfl, iteT ?_⟩
    refine ⟨.int lo, rfl, .int v, rfl, lo, v, rfl, rfl, decide (lo ≤ v), rfl, ?_⟩
    cases e : decide (lo ≤ v) with
    | false => rw [e] at q; exact q
    | true => rw [e] at q; exact ⟨.int hi, rfl, v, hi, rfl, rfl, q⟩
/-! ### is_permutation -/
def spPerm (T : Addr) : Sp := fun vs H Q _ => ∃ (a : Addr) (n : Nat) (L : List Int), vs = [.ref a, .int n] ∧ IntT H a L ∧ IsPerm n L ∧ n ≤ 5 ∧ TabG H T ∧ ∀ H', Ext none H H' → Q (.bl true) H'
theorem ok_perm {f f1 c T : Addr} {fd fd1 : FuncData} (F : Fun K "is_permutation" "is_permutation" sPerm f fd) (hc : fd.code = .ref c) (TB : TabB base mg c T) (F1 : Fun K "is_number" "is_number" sNum f1 fd1) (b1 : Binds K fd1 ["value", "low", "high"] []) (g1 : mg "is_number" = some (.ref f1)) (N : Nm mg) :
    FnOk P w K mg base CX0 2 f fd ["value", "many"] (spPerm T) := by
  refine fun_okC F hc scPerm (fun vs H Q E h => ?_) (fun A outer s H vs Q E hr h => ?_)
  · obtain ⟨a, n, L, rfl, _⟩ := h
    rfl
  · obtain ⟨a, n, L, rfl, hA, hp, hn5, hT, q⟩ := h
    refine ⟨_, pss_cons (ps_if (PW.pt (pw_or (pt_not (pt_val (pe_callB call_isi (by rfl) N.isinstance boot_isinstance (pa_cons (pv 0) (pa_cons (pe_bltn (v := .ty "tuple") (by rfl) N.tuple boot_tuple' rfl) pa_nil)))))
        (pw_or1 (pt_cmpR op_ne (pe_callB call_len_seq (by rfl) N.len PySem.boot_len (pa_cons (pv 0) pa_nil)) (pv 1) (nomark _))))) pss_never pss_nil)
      (pss_one (ps_ret (pe_and (pe_allI (C := fun pb σ H => ∃ m : Int, σ[1]? = some (some (.int m)) ∧ pb = fun c => decide (0 ≤ c) && decide (c ≤ m - 1)) hr (by rfl) N.all TB rfl ⟨rfl, rfl, by decide +kernel, by decide +kernel, by decide +kernel, ?_⟩ (pv 0) (fun pins σ H s pb I hT hC => ?_) (fun v => by rfl))
        (pe_one (pe_cmpR op_eq (pe_lenSetT (by rfl) N.len (by rfl) N.set (pv 0)) (pv 1) (nomark _)))))), ?_⟩
    · exact free_cells (by decide +kernel)
    · obtain ⟨m, hσ, rfl⟩ := hC
      refine elt_many (i := 1) F1 b1 N g1 ?_ rfl rfl rfl ?_ ?_ rfl rfl rfl rfl rfl I hT hσ
      · exact room_dp hr
      · decide +kernel
      · exact free_cells (by decide +kernel)
    · have hl : ((L.map V.int).length : Int) = n := by rw [List.length_map, hp.len]
      refine ⟨.ref a, rfl, _, _, .type "tuple", .type "tuple", true, rfl, .ty _, .base (.tup hA), rfl, true, rfl, iteF ?_⟩
      refine ⟨.ref a, rfl, a, _, rfl, .inr hA.sq, .int n, rfl, rfl, _, rfl, ?_⟩
      rw [hl, decide_eq_true rfl]
      refine iteF ⟨.ref a, rfl, a, L, _, rfl, hA.sq, ⟨n, rfl, rfl⟩, hT, fun H2 tb => ⟨_, rfl, ?_⟩⟩
      have hall : (L.all fun c => decide (0 ≤ c) && decide (c ≤ (n : Int) - 1)) = true := by
        rw [List.all_eq_true]
        intro x hx
        have := hp.rng x hx
        simp only [Bool.and_eq_true, decide_eq_true_eq]
        omega
      rw [hall]
      have x2 : Ext none H H2 := Ext.tabbed hT tb
      refine iteT ⟨.ref a, rfl, a, L, rfl, (hA.ext x2).sq, hp.nd, by rw [hp.len]; omega, .int n, rfl, rfl, ?_⟩
      show Q (.bl (decide (V.int (L.length : Nat) = V.int n))) H2
      rw [hp.len, decide_eq_true rfl]
      exact q H2 x2
end
end K01

set_option Elab.async false
set_option linter.all false
set_option maxRecDepth 100000
set_option maxHeartbeats 4000000
namespace K01
open PySem PySem.Spec PyProof.Rows L2 GxR
/-- a def of the text, its binding and its global name -/
structure Fx (K : PySem.W.Frag) (mg : Str → Option Value) (x : Str) (st : Stmt) (ps : List Str) (f : Addr) (fd : FuncData) : Prop where
  F : Fun K x x st f fd
  b : Binds K fd ps []
  g : mg x = some (.ref f)
theorem fcall {X : Cx} {k : Nat} {x : Str} {st : Stmt} {ps : List Str} {f : Addr} {fd : FuncData} {sp : Sp} {e : Expr} {es : List Expr} {t : TA} {p pos : Pos} (B : Fx X.K X.mg x st ps f fd) (G : FnOk X.prog X.w X.K X.mg X.base CX0 k f fd ps sp) (hr : Room k X.A) (hg : Gl X x) (ha : PA X (e :: es) t)
    (hdb : (x == ("__debug__" : Str)) = false := by decide) (he : starEach (e :: es) X.env = (false, eval e X.env) :: starEach es X.env := by rfl) (hpl : (backTo pos (starEach es X.env)).any (·.1) = false := by rfl) : PE X (.Call (.Name x p) (e :: es) [] pos) (tCall sp [] E0 t) :=
  pe_call G hr hg B.g B.F.kp B.b .nil pass0 ha hdb he hpl
theorem tups_get {H : Hp} : ∀ {bs : List Addr} {ls : List (List Int)} {p : Nat} {l : List Int}, TupsAt H bs ls → ls[p]? = some l → ∃ b, bs[p]? = some b ∧ IntT H b l
  | _, _, 0, _, .cons h _, e => ⟨_, rfl, by cases e; exact h⟩
  | _, _, p + 1, _, .cons _ t, e => tups_get (p := p) t e
theorem HabAt.get {H : Hp} {a : Addr} {h : List (List Int)} {n p : Nat} (t : HabAt H a h) (I : IsHab n h) (hp : p < n) : ∃ xs b, H a = some (.tup xs) ∧ atI xs (p : Int) = some (.ref b) ∧ IntT H b (h.getD p []) := by
  obtain ⟨bs, e, r⟩ := t
  have hl : p < h.length := by rw [I.len]; exact hp
  obtain ⟨b, eb, ib⟩ := tups_get r (List.getElem?_eq_getElem hl)
  refine ⟨_, b, e, atI_nat (j := p) (by rw [List.getElem?_map, eb]; rfl), ?_⟩
  rw [List.getD_eq_getElem?_getD, List.getElem?_eq_getElem hl]
  exact ib
theorem HabAt.len {H : Hp} {a : Addr} {h : List (List Int)} {n : Nat} (t : HabAt H a h) (I : IsHab n h) : ∃ xs, H a = some (.tup xs) ∧ xs.length = n := by
  obtain ⟨bs, e, r⟩ := t
  exact ⟨_, e, by rw [List.length_map, r.length, I.len]⟩
theorem row_at {n : Nat} {r : List Int} {s : Int} (R : IsPerm n r) (h : 0 ≤ s ∧ s < (n : Int)) : atI (r.map V.int) s = some (.int (r.getD s.toNat 0)) := by
  have hl : s.toNat < r.length := by rw [R.len]; omega
  have q : atI (r.map V.int) ((s.toNat : Nat) : Int) = some (.int (r.getD s.toNat 0)) := atI_nat (by rw [List.getElem?_map, List.getElem?_eq_getElem hl, List.getD_eq_getElem?_getD, List.getElem?_eq_getElem hl]; rfl)
  rwa [Int.toNat_of_nonneg h.1] at q
section
variable {P : Program} {w : World} {K : PySem.W.Frag} {mg : Str → Option Value} {base : Heap}
/-! ### need_habit -/
def spNeedH (T : Addr) : Sp := fun vs H Q _ => ∃ (a : Addr) (n : Nat) (h : List (List Int)), vs = [.ref a] ∧ HabAt H a h ∧ IsHab n h ∧ 2 ≤ n ∧ n ≤ 5 ∧ TabG H T ∧ ∀ H', Ext none H H' → Q .non H'
structure Nc (mg : Str → Option Value) : Prop where
  least : ∃ t, mg "LEAST_PLACES" = some (.int 2 t)
  most : ∃ t, mg "MOST_PLACES" = some (.int 5 t)
  word : ∃ t, mg "MOST_WORD" = some (.int 400 t)
theorem ok_needH {f fP T : Addr} {fd fdP : FuncData} (F : Fun K "need_habit" "need_habit" sNeedH f fd) (BP : Fx K mg "is_permutation" sPerm ["value", "many"] fP fdP) (GP : FnOk P w K mg base CX0 2 fP fdP ["value", "many"] (spPerm T)) (N : Nm mg) (C : Nc mg) :
    FnOk P w K mg base CX0 3 f fd ["value"] (spNeedH T) := by
  obtain ⟨t1, mL⟩ := C.least
  obtain ⟨t2, mM⟩ := C.most
  refine F.ok scNeedH (fun vs H Q E h => ?_) (fun cdv A outer s H vs Q E hr h => ?_)
  · obtain ⟨a, n, L, rfl, _⟩ := h
    rfl
  · obtain ⟨a, n, h, rfl, hA, hI, h2, h5, hT, q⟩ := h
    refine ⟨_, pss_cons (ps_if (PW.pt (pw_or (pt_not (pt_val (pe_callB call_isi (by rfl) N.isinstance boot_isinstance (pa_cons (pv 0) (pa_cons (pe_bltn (v := .ty "tuple") (by rfl) N.tuple boot_tuple' rfl) pa_nil)))))
        (pw_or1 (pt_not (pt_chain op_le op_le (pe_glob (v := .int 2) rfl mL ⟨_, rfl⟩) (pe_callB call_len_seq (by rfl) N.len PySem.boot_len (pa_cons (pv 0) pa_nil)) (pe_glob (v := .int 5) rfl mM ⟨_, rfl⟩)))))) pss_never pss_nil)
      (pss_one (ps_for PassesOwn.never rfl (pi_enumT (by rfl) N.enumerate (pa_cons (pv 0) pa_nil)) (pg_tup rfl (pgs_cons (pg_name (i := 1) scNeedH.nd rfl (.inl rfl)) (pgs_cons (pg_name (i := 2) scNeedH.nd rfl (.inl rfl)) pgs_nil)))
        (pss_one (ps_if (pt_not (pt_val (fcall BP GP hr (by rfl) (pa_cons (pv 2) (pa_cons (pe_callB call_len_seq (by rfl) N.len PySem.boot_len (pa_cons (pv 0) pa_nil)) pa_nil))))) pss_never pss_nil)))), ?_⟩
    obtain ⟨xs, eA, hl⟩ := hA.len hI
    have e2 : decide ((2 : Int) ≤ (xs.length : Nat)) = true := by rw [hl]; exact decide_eq_true (by omega)
    have e5 : decide (((xs.length : Nat) : Int) ≤ 5) = true := by rw [hl]; exact decide_eq_true (by omega)
    refine ⟨.ref a, rfl, _, _, .type "tuple", .type "tuple", true, rfl, .ty _, .base (.tup eA), rfl, true, rfl, iteF ?_⟩
    refine ⟨.ref a, rfl, a, _, rfl, .inr (.inl (.inl eA)), _, _, rfl, rfl, _, rfl, ?_⟩
    rw [e2]
    refine iteT ⟨_, _, rfl, rfl, _, rfl, ?_⟩
    rw [e5]
    refine iteF ?_
    refine ⟨.ref a, rfl, a, xs, rfl, .inl (.inl eA), for_it (walk_enumT (a := a) (xs := xs)) (fun i σ H' => ∃ y1 y2, σ = [some (.ref a), y1, y2] ∧ Ext none H H') ⟨none, none, rfl, .refl⟩ (fun i σ H' _ ⟨_, _, _, x⟩ => .inl (.inl (x.tup eA))) ?_ (fun σ H' ⟨_, _, _, x⟩ => q H' x)⟩
    rintro i v σ H1 H2 hi ⟨y1, y2, rfl, x⟩ ⟨T', z1, z2, rfl, nT, rfl, f1, f2⟩
    have x2 : Ext none H (upd H1 T' (.tup [z1, z2])) := x.trans (.new nT)
    refine ⟨T', [z1, z2], rfl, .inl (.inl upd_same), rfl, z1, [z2], rfl, z2, [], rfl, rfl, ?_⟩
    have hin : i < n := by rw [← hl]; exact hi
    obtain ⟨xs', b, eA', eb, ib⟩ := (hA.ext x2).get hI hin
    have exs : xs' = xs := by
      have q1 := x2.tup eA
      rw [eA'] at q1
      exact HO.tup.inj (Option.some.inj q1)
    subst exs
    have eb2 : atI xs' (i : Int) = some z2 := atI_nat (j := i) f2
    rw [eb] at eb2
    cases eb2
    refine ⟨.ref b, rfl, .ref a, rfl, a, xs', rfl, .inr (.inl (.inl (x2.tup eA))), b, n, _, by rw [hl]; rfl, ib, hI.at hin, h5, x2.tab T hT, fun H3 x3 => ⟨true, rfl, iteF ⟨_, _, rfl, x2.trans x3⟩⟩⟩
end
end K01

set_option Elab.async false
set_option linter.all false
set_option maxRecDepth 100000
set_option maxHeartbeats 4000000
namespace K01
open PySem PySem.Spec PyProof.Rows L2 GxR
section
variable {P : Program} {w : World} {K : PySem.W.Frag} {mg : Str → Option Value} {base : Heap}
/-! ### need_layout, need_shelf, need_place -/
def spNeedL (T : Addr) : Sp := fun vs H Q _ => ∃ (a l : Addr) (n : Nat) (h : List (List Int)) (L : List Int), vs = [.ref a, .ref l] ∧ HabAt H a h ∧ IsHab n h ∧ IntT H l L ∧ IsPerm n L ∧ n ≤ 5 ∧ TabG H T ∧ ∀ H', Ext none H H' → Q .non H'
theorem ok_needL {f fP T : Addr} {fd fdP : FuncData} (F : Fun K "need_layout" "need_layout" sNeedL f fd) (BP : Fx K mg "is_permutation" sPerm ["value", "many"] fP fdP) (GP : FnOk P w K mg base CX0 2 fP fdP ["value", "many"] (spPerm T)) (N : Nm mg) :
    FnOk P w K mg base CX0 3 f fd ["habit", "value"] (spNeedL T) := by
  refine F.ok scNeedL (fun vs H Q E h => ?_) (fun cdv A outer s H vs Q E hr h => ?_)
  · obtain ⟨a, l, n, h, L, rfl, _⟩ := h
    rfl
  · obtain ⟨a, l, n, h, L, rfl, hA, hI, hL, hp, h5, hT, q⟩ := h
    refine ⟨_, pss_one (ps_if (pt_not (pt_val (fcall BP GP hr (by rfl) (pa_cons (pv 1) (pa_cons (pe_callB call_len_seq (by rfl) N.len PySem.boot_len (pa_cons (pv 0) pa_nil)) pa_nil))))) pss_never pss_nil), ?_⟩
    obtain ⟨xs, eA, hl⟩ := hA.len hI
    exact ⟨.ref l, rfl, .ref a, rfl, a, xs, rfl, .inr (.inl (.inl eA)), l, n, L, by rw [hl]; rfl, hL, hp, h5, hT, fun H3 x3 => ⟨true, rfl, iteF (q H3 x3)⟩⟩
def spNeedS (T : Addr) : Sp := fun vs H Q _ => ∃ (a l : Addr) (n : Nat) (h : List (List Int)) (L : List Int), vs = [.ref a, .ref l] ∧ HabAt H a h ∧ IsHab n h ∧ IntT H l L ∧ IsPerm n L ∧ 2 ≤ n ∧ n ≤ 5 ∧ TabG H T ∧ ∀ H', Ext none H H' → Q .non H'
theorem ok_needS {f fH fL T : Addr} {fd fdH fdL : FuncData} (F : Fun K "need_shelf" "need_shelf" sNeedS f fd) (BH : Fx K mg "need_habit" sNeedH ["value"] fH fdH) (GH : FnOk P w K mg base CX0 3 fH fdH ["value"] (spNeedH T))
    (BL : Fx K mg "need_layout" sNeedL ["habit", "value"] fL fdL) (GL : FnOk P w K mg base CX0 3 fL fdL ["habit", "value"] (spNeedL T)) : FnOk P w K mg base CX0 4 f fd ["habit", "layout"] (spNeedS T) := by
  refine F.ok scNeedS (fun vs H Q E h => ?_) (fun cdv A outer s H vs Q E hr h => ?_)
  · obtain ⟨a, l, n, h, L, rfl, _⟩ := h
    rfl
  · obtain ⟨a, l, n, h, L, rfl, hA, hI, hL, hp, h2, h5, hT, q⟩ := h
    refine ⟨_, pss_cons (ps_expr (fcall BH GH hr (by rfl) (pa_cons (pv 0) pa_nil))) (pss_one (ps_expr (fcall BL GL hr (by rfl) (pa_cons (pv 0) (pa_cons (pv 1) pa_nil))))), ?_⟩
    exact ⟨.ref a, rfl, a, n, h, rfl, hA, hI, h2, h5, hT, fun H1 x1 => ⟨.ref a, rfl, .ref l, rfl, a, l, n, h, L, rfl, hA.ext x1, hI, hL.ext x1, hp, h5, x1.tab T hT, fun H2 x2 => q H2 (x1.trans x2)⟩⟩
def spNeedP : Sp := fun vs H Q _ => ∃ (a : Addr) (n p : Nat) (h : List (List Int)), vs = [.ref a, .int p] ∧ HabAt H a h ∧ IsHab n h ∧ p < n ∧ Q .non H
theorem ok_needP {f f1 : Addr} {fd fd1 : FuncData} (F : Fun K "need_place" "need_place" sNeedP f fd) (B1 : Fx K mg "is_number" sNum ["value", "low", "high"] f1 fd1) (G1 : FnOk P w K mg base CX0 1 f1 fd1 ["value", "low", "high"] spNum) (N : Nm mg) :
    FnOk P w K mg base CX0 2 f fd ["habit", "value"] spNeedP := by
  refine F.ok scNeedP (fun vs H Q E h => ?_) (fun cdv A outer s H vs Q E hr h => ?_)
  · obtain ⟨a, n, p, h, rfl, _⟩ := h
    rfl
  · obtain ⟨a, n, p, h, rfl, hA, hI, hp, q⟩ := h
    refine ⟨_, pss_one (ps_if (pt_not (pt_val (fcall B1 G1 hr (by rfl) (pa_cons (pv 1) (pa_cons pe_int (pa_cons (pe_op op_sub (pe_callB call_len_seq (by rfl) N.len PySem.boot_len (pa_cons (pv 0) pa_nil)) pe_int) pa_nil)))))) pss_never pss_nil), ?_⟩
    obtain ⟨xs, eA, hl⟩ := hA.len hI
    refine ⟨.int p, rfl, .ref a, rfl, a, xs, rfl, .inr (.inl (.inl eA)), _, _, rfl, rfl, p, 0, _, rfl, _, rfl, ?_⟩
    rw [hl, decide_eq_true (by omega : (0 : Int) ≤ p), decide_eq_true (by omega : (p : Int) ≤ (n : Int) - 1)]
    exact iteF q
/-! ### the list of what stands where behind a touch -/
theorem touch_lc {H : Hp} {a l : Addr} {n p : Nat} {h : List (List Int)} {L : List Int} {σ : L2.St} {Q : VK} {i0 i1 i2 i3 : Nat} (hA : HabAt H a h) (hI : IsHab n h) (hL : IntT H l L) (hp : IsPerm n L) (h5 : n ≤ 5) (hpn : p < n)
    (s0 : (σ.set i3 none)[i0]? = some (some (.ref a))) (s1 : σ[i1]? = some (some (.ref l))) (s2 : (σ.set i3 none)[i2]? = some (some (.int p))) (n0 : i0 ≠ i3) (n2 : i2 ≠ i3) (h3 : i3 < σ.length)
    (q : ∀ H' r, Ext none H H' → H' r = some (.tup ((touch h L p).map V.int)) → Q (.ref r) H') :
    tThen (tLc (iTup K (tVar i1)) (gName i3) (fun _ H Q => Q true H) (tOp (rIxT K) (tOp (rIxT K) (tVar i0) (tVar i2)) (tVar i3)) [i3]) (kTup K) σ H Q := by
  refine ⟨.ref l, s1, l, rfl, ⟨_, hL.sq⟩, fun D nD => lc_tup (K := K) (a := l) (xs := L.map V.int) (g := gName i3) (tt := fun _ H Q => Q true H) (te := tOp (rIxT K) (tOp (rIxT K) (tVar i0) (tVar i2)) (tVar i3)) (vs := [i3]) (σ := σ) (Qd := fun H => kTup K (.ref D) H Q) (fun i H' => Ext none H H' ∧ H' D = some (.lst (((touch h L p).take i).map V.int))) ⟨.new nD, upd_same⟩ (fun i H' _ x => (hL.ext x.1).sq) ?_ ?_⟩
  · rintro i x H1 hx ⟨x1, eD⟩
    rw [List.getElem?_map] at hx
    obtain ⟨s, es, rfl⟩ := Option.map_eq_some_iff.mp hx
    have hs := hp.rng s (List.mem_of_getElem? es)
    obtain ⟨xs, b, eA, eb, ib⟩ := (hA.ext x1).get hI hpn
    have ls : (σ.set i3 none).length = σ.length := List.length_set
    refine ⟨?_, iteT ⟨.ref a, ?_, .int p, ?_, a, xs, p, .ref b, rfl, rfl, .inl (.inl eA), eb, .int s, ?_, b, _, s, _, rfl, rfl, ib.sq, row_at (hI.at hpn) hs, _, eD, ?_, x1.set nD eD (fun ps z => nomatch z), ?_⟩⟩
    · show ((σ.set i3 none).set i3 (some (.int s))).set i3 none = σ.set i3 none
      rw [List.set_set, List.set_set]
    · show ((σ.set i3 none).set i3 _)[i0]? = _
      rw [List.getElem?_set_ne (Ne.symm n0)]
      exact s0
    · show ((σ.set i3 none).set i3 _)[i2]? = _
      rw [List.getElem?_set_ne (Ne.symm n2)]
      exact s2
    · show ((σ.set i3 none).set i3 _)[i3]? = _
      rw [List.getElem?_set_self (by rw [ls]; exact h3)]
    · rw [List.length_map, List.length_take]
      have e1 : (touch h L p).length = n := by rw [touch, List.length_map, hp.len]
      exact Nat.lt_of_le_of_lt (Nat.min_le_right _ _) (by rw [e1]; exact small1000 (by omega))
    · rw [upd_same, List.take_add_one, List.map_append]
      have e1 : (touch h L p)[i]? = some ((h.getD p []).getD s.toNat 0) := by rw [touch, List.getElem?_map, es]; rfl
      rw [e1]
      rfl
  · rintro H2 ⟨x2, eD⟩
    have e1 : (touch h L p).take (L.map V.int).length = touch h L p := List.take_of_length_le (by rw [touch, List.length_map, List.length_map]; exact Nat.le_refl _)
    rw [e1] at eD
    exact .inl ⟨D, _, rfl, .inl (.inl eD), fun r nr => q _ r (x2.trans (.new nr)) upd_same⟩
def spBT : Sp := fun vs H Q _ => ∃ (a l : Addr) (n p : Nat) (h : List (List Int)) (L : List Int), vs = [.ref a, .ref l, .int p] ∧ HabAt H a h ∧ IsHab n h ∧ IntT H l L ∧ IsPerm n L ∧ n ≤ 5 ∧ p < n ∧ ∀ H' r, Ext none H H' → IntT H' r (touch h L p) → Q (.ref r) H'
theorem ok_BT {f : Addr} {fd : FuncData} (F : Fun K "behind_touch" "behind_touch" sBT f fd) (N : Nm mg) : FnOk P w K mg base CX0 1 f fd ["habit", "layout", "place"] spBT := by
  refine F.ok scBT (fun vs H Q E h => ?_) (fun cdv A outer s H vs Q E hr h => ?_)
  · obtain ⟨a, l, n, p, h, L, rfl, _⟩ := h
    rfl
  · obtain ⟨a, l, n, p, h, L, rfl, hA, hI, hL, hp, h5, hpn, q⟩ := h
    refine ⟨_, pss_one (ps_ret (pe_tupleOf (by rfl) N.tuple (pe_lc (own := [("stands", 3)]) (g := gName 3) rfl scBT.nd (pi_tup (pv 1)) (blkOk_by (N := nBT) (sc := defScope sBT) (by decide +kernel)) (fun _ _ _ _ _ => pg_name (i := 3) scBT.nd rfl (Or.inl rfl)) (fun _ _ _ _ _ => pts_nil)
      (fun _ _ _ _ _ => pe_ix (r := rIxT K) ix_tup (pe_ix (r := rIxT K) ix_tup (pv 0) (pv 2) (fun _ _ => rfl)) (pv 3) (fun _ _ => rfl))))), ?_⟩
    exact touch_lc (i0 := 0) (i1 := 1) (i2 := 2) (i3 := 3) hA hI hL hp h5 hpn rfl rfl rfl (by decide) (by decide) (Nat.lt_succ_self 3) q
theorem ok_LT {f : Addr} {fd : FuncData} (F : Fun K "_law_touch" "_law_touch" sLTouch f fd) (N : Nm mg) : FnOk P w K mg base CX0 1 f fd ["_law_habit_here", "_law_layout", "_law_place"] spBT := by
  refine F.ok scLTouch (fun vs H Q E h => ?_) (fun cdv A outer s H vs Q E hr h => ?_)
  · obtain ⟨a, l, n, p, h, L, rfl, _⟩ := h
    rfl
  · obtain ⟨a, l, n, p, h, L, rfl, hA, hI, hL, hp, h5, hpn, q⟩ := h
    refine ⟨_, pss_one (ps_ret (pe_tupleOf (by rfl) N.tuple (pe_lc (own := [("_law_spot", 3)]) (g := gName 3) rfl scLTouch.nd (pi_tup (pv 1)) (blkOk_by (N := nLTouch) (sc := defScope sLTouch) (by decide +kernel)) (fun _ _ _ _ _ => pg_name (i := 3) scLTouch.nd rfl (Or.inl rfl)) (fun _ _ _ _ _ => pts_nil)
      (fun _ _ _ _ _ => pe_ix (r := rIxT K) ix_tup (pe_ix (r := rIxT K) ix_tup (pv 0) (pv 2) (fun _ _ => rfl)) (pv 3) (fun _ _ => rfl))))), ?_⟩
    exact touch_lc (i0 := 0) (i1 := 1) (i2 := 2) (i3 := 3) hA hI hL hp h5 hpn rfl rfl rfl (by decide) (by decide) (Nat.lt_succ_self 3) q
end
end K01

set_option Elab.async false
set_option linter.all false
set_option maxRecDepth 100000
set_option maxHeartbeats 4000000
namespace K01
/-! ### a step of the search -/
def acc (F0 cs : PW Lay) : PW Lay := cs.foldl ins F0
theorem acc_eq (F0 cs : PW Lay) : acc F0 cs = F0 ++ fresh (F0.map (·.1)) cs := foldl_ins _ _
theorem acc_snoc (F0 cs : PW Lay) (c : Lay × List Int) : acc F0 (cs ++ [c]) = ins (acc F0 cs) c := by unfold acc; rw [List.foldl_append]; rfl
theorem acc_old {F0 cs : PW Lay} {c : Lay × List Int} (h : c.1 ∈ (acc F0 cs).map (·.1)) : acc F0 (cs ++ [c]) = acc F0 cs := by rw [acc_snoc, ins, if_pos h]
theorem acc_new {F0 cs : PW Lay} {c : Lay × List Int} (h : ¬ c.1 ∈ (acc F0 cs).map (·.1)) : acc F0 (cs ++ [c]) = acc F0 cs ++ [c] := by rw [acc_snoc, ins, if_neg h]
theorem fresh_old {F0 cs : PW Lay} {c : Lay × List Int} (h : c.1 ∈ (acc F0 cs).map (·.1)) : fresh (F0.map (·.1)) (cs ++ [c]) = fresh (F0.map (·.1)) cs := by
  have e := acc_old h
  rw [acc_eq, acc_eq] at e
  exact List.append_cancel_left e
theorem fresh_new {F0 cs : PW Lay} {c : Lay × List Int} (h : ¬ c.1 ∈ (acc F0 cs).map (·.1)) : fresh (F0.map (·.1)) (cs ++ [c]) = fresh (F0.map (·.1)) cs ++ [c] := by
  have e := acc_new h
  rw [acc_eq, acc_eq, List.append_assoc] at e
  exact List.append_cancel_left e
theorem acc_sub {F0 cs : PW Lay} {t : Lay × List Int} (h : t ∈ F0) : t ∈ acc F0 cs := by rw [acc_eq]; exact List.mem_append_left _ h
/-- the candidates of a layer's first i, and of the next one's first j places -/
def cut (f : Lay → Nat → Lay) (k : Nat) (E : PW Lay) (i j : Nat) (t : Lay × List Int) : PW Lay := cands f k (E.take i) ++ (succs f k t).take j
theorem cut_zero {f : Lay → Nat → Lay} {k : Nat} {E : PW Lay} {i : Nat} {t : Lay × List Int} : cut f k E i 0 t = cands f k (E.take i) := by unfold cut; simp
theorem cut_succ {f : Lay → Nat → Lay} {k : Nat} {E : PW Lay} {i j : Nat} {t : Lay × List Int} (hj : j < k) : cut f k E i (j + 1) t = cut f k E i j t ++ [(f t.1 j, t.2 ++ [(j : Int)])] := by
  unfold cut
  rw [List.append_assoc, List.take_add_one]
  have e : (succs f k t)[j]? = some (f t.1 j, t.2 ++ [(j : Int)]) := by
    unfold succs
    rw [List.getElem?_map, List.getElem?_range hj]
    rfl
  rw [e]
  rfl
theorem cut_end {f : Lay → Nat → Lay} {k : Nat} {E : PW Lay} {i : Nat} {t : Lay × List Int} (ht : E[i]? = some t) : cut f k E i k t = cands f k (E.take (i + 1)) := by
  unfold cut
  have e : (succs f k t).take k = succs f k t := List.take_of_length_le (by unfold succs; simp)
  rw [e, List.take_add_one, ht]
  unfold cands
  rw [List.flatMap_append]
  simp
/-! ### what is found is fit -/
structure Good (n : Nat) (F : PW Lay) : Prop where
  nd : (F.map (·.1)).Nodup
  ok : ∀ t ∈ F, IsPerm n t.1 ∧ ∀ z ∈ t.2, 0 ≤ z ∧ z < (n : Int)
theorem Good.ins {n : Nat} {F : PW Lay} {c : Lay × List Int} (G : Good n F) (hp : IsPerm n c.1) (hw : ∀ z ∈ c.2, 0 ≤ z ∧ z < (n : Int)) : Good n (ins F c) := by
  unfold K01.ins
  by_cases h : c.1 ∈ F.map (·.1)
  · rw [if_pos h]; exact G
  · rw [if_neg h]
    refine ⟨?_, fun t ht => ?_⟩
    · rw [List.map_append, List.nodup_append]
      refine ⟨G.nd, by simp, fun x hx y hy e => ?_⟩
      have e2 : y = c.1 := by simpa using hy
      rw [e2] at e
      rw [e] at hx
      exact h hx
    · rcases List.mem_append.mp ht with h1 | h1
      · exact G.ok t h1
      · have e : t = c := by simpa using h1
        rw [e]
        exact ⟨hp, hw⟩
theorem Good.len {n : Nat} {F : PW Lay} (G : Good n F) (hn : n ≤ 5) : F.length ≤ 3125 := by
  have h2 := nodup_sub_len G.nd (b := allL n n) fun x hx => by
    obtain ⟨t, ht, e⟩ := List.mem_map.mp hx
    have P := (G.ok t ht).1
    rw [← e]
    exact mem_allL P.len P.rng
  rw [List.length_map] at h2
  exact Nat.le_trans h2 (allL_small hn)
theorem stS_good {n : Nat} {h : List Lay} (H : IsHab n h) {L : Lay} (hL : IsPerm n L) (m : Nat) : Good n (stS h L m).1 := ⟨st_nodup m, fun t ht => ⟨stS_perm H hL m t ht, fun z hz => by have := st_word_lt m t ht z hz; rw [H.len] at this; exact this⟩⟩
theorem cand_good {n j : Nat} {h : List Lay} {t : Lay × List Int} (H : IsHab n h) (hj : j < n) (ht : IsPerm n t.1 ∧ ∀ z ∈ t.2, 0 ≤ z ∧ z < (n : Int)) : IsPerm n (touch h t.1 j) ∧ ∀ z ∈ t.2 ++ [(j : Int)], 0 ≤ z ∧ z < (n : Int) := by
  refine ⟨touch_perm H ht.1 hj, fun z hz => ?_⟩
  rcases List.mem_append.mp hz with h1 | h1
  · exact ht.2 z h1
  · have e : z = (j : Int) := by simpa using h1
    rw [e]
    exact ⟨by omega, by omega⟩
theorem Good.snoc {n j : Nat} {h : List Lay} {F0 cs : PW Lay} {t : Lay × List Int} (G : Good n (acc F0 cs)) (H : IsHab n h) (hj : j < n) (ht : IsPerm n t.1 ∧ ∀ z ∈ t.2, 0 ≤ z ∧ z < (n : Int)) : Good n (acc F0 (cs ++ [(touch h t.1 j, t.2 ++ [(j : Int)])])) := by
  rw [acc_snoc]
  obtain ⟨a, b⟩ := cand_good H hj ht
  exact G.ins a b
theorem st_round {h : List Lay} {L : Lay} (r : Nat) : (stS h L (r + 1)).1 = acc (stS h L r).1 (cands (touch h) h.length (stS h L r).2) ∧ (stS h L (r + 1)).2 = fresh ((stS h L r).1.map (·.1)) (cands (touch h) h.length (stS h L r).2) := ⟨rfl, rfl⟩
theorem ex_round {h : List Lay} {L : Lay} (r : Nat) : ex (touch h) h.length L (r + 1) = acc [] (cands (touch h) h.length (ex (touch h) h.length L r)) := rfl
/-! ### a word, touch by touch -/
def along (h : List Lay) (L : Lay) (w : List Int) : Lay := w.foldl (fun x p => touch h x p.toNat) L
theorem along_perm {n : Nat} {h : List Lay} (H : IsHab n h) : ∀ {w : List Int} {L : Lay}, IsPerm n L → (∀ z ∈ w, 0 ≤ z ∧ z < (n : Int)) → IsPerm n (along h L w)
  | [], L, hL, _ => hL
  | z :: w, L, hL, hw => along_perm H (w := w) (touch_perm H hL (p := z.toNat) (by have := hw z (List.mem_cons_self ..); omega)) fun x hx => hw x (List.mem_cons_of_mem _ hx)
theorem along_snoc (h : List Lay) (L : Lay) (w : List Int) (z : Int) : along h L (w ++ [z]) = touch h (along h L w) z.toNat := by unfold along; rw [List.foldl_append]; rfl
theorem along_take (h : List Lay) (L : Lay) {w : List Int} {i : Nat} {z : Int} (e : w[i]? = some z) : along h L (w.take (i + 1)) = touch h (along h L (w.take i)) z.toNat := by
  rw [List.take_add_one, e]
  exact along_snoc ..
end K01

set_option Elab.async false
set_option linter.all false
set_option maxRecDepth 100000
set_option maxHeartbeats 4000000
namespace K01
open PySem PySem.Spec PyProof.Rows L2 GxR
section
variable {P : Program} {w : World} {K : PySem.W.Frag} {mg : Str → Option Value} {base : Heap}
abbrev pBT : List Str := ["habit", "layout", "place"]
/-! ### behind_word -/
def spBW : Sp := fun vs H Q _ => ∃ (a l ww : Addr) (n : Nat) (h : List (List Int)) (L W : List Int), vs = [.ref a, .ref l, .ref ww] ∧ HabAt H a h ∧ IsHab n h ∧ IntT H l L ∧ IsPerm n L ∧ n ≤ 5 ∧ IntT H ww W ∧ (∀ z ∈ W, 0 ≤ z ∧ z < (n : Int)) ∧ ∀ H' r, Ext none H H' → IntT H' r (along h L W) → Q (.ref r) H'
theorem ok_BW {f fB : Addr} {fd fdB : FuncData} (F : Fun K "behind_word" "behind_word" sBW f fd) (BB : Fx K mg "behind_touch" sBT pBT fB fdB) (GB : FnOk P w K mg base CX0 1 fB fdB pBT spBT) : FnOk P w K mg base CX0 2 f fd ["habit", "layout", "word"] spBW := by
  refine F.ok scBW (fun vs H Q E h => ?_) (fun cdv A outer s H vs Q E hr h => ?_)
  · obtain ⟨a, l, ww, n, h, L, W, rfl, _⟩ := h
    rfl
  · obtain ⟨a, l, ww, n, h, L, W, rfl, hA, hI, hL, hp, h5, hW, hw, q⟩ := h
    refine ⟨_, pss_cons (ps_for PassesOwn.never rfl (pi_tup (pv 2)) (pg_name (i := 3) scBW.nd rfl (.inl rfl)) (pss_one (ps_set (i := 1) scBW.nd rfl (.inl rfl) (fcall BB GB hr (by rfl) (pa_cons (pv 0) (pa_cons (pv 1) (pa_cons (pv 3) pa_nil))))))) (pss_one (ps_ret (pv 1))), ?_⟩
    refine ⟨.ref ww, rfl, ww, rfl, ⟨_, hW.sq⟩, for_tup (K := K) (a := ww) (xs := W.map V.int) (fun i σ H' => ∃ l' y, σ = [some (.ref a), some (.ref l'), some (.ref ww), y] ∧ Ext none H H' ∧ IntT H' l' (along h L (W.take i))) ⟨l, none, rfl, .refl, hL⟩ (fun i σ H' _ ⟨_, _, _, x, _⟩ => (hW.ext x).sq) ?_ ?_⟩
    · rintro i x σ H1 hx ⟨l', y, rfl, x1, hl'⟩
      rw [List.getElem?_map] at hx
      obtain ⟨z, ez, rfl⟩ := Option.map_eq_some_iff.mp hx
      have hz := hw z (List.mem_of_getElem? ez)
      have hpp := along_perm hI hp (w := W.take i) fun v hv => hw v (List.mem_of_mem_take hv)
      refine ⟨.ref a, rfl, .ref l', rfl, .int z, rfl, a, l', n, z.toNat, h, _, ?_, hA.ext x1, hI, hl', hpp, h5, by omega, fun H2 r x2 hr' => ⟨r, some (.int z), rfl, x1.trans x2, ?_⟩⟩
      · rw [Int.toNat_of_nonneg hz.1]; rfl
      · rw [along_take h L ez]; exact hr'
    · rintro σ H1 ⟨l', y, rfl, x1, hl'⟩
      have e : W.take (W.map V.int).length = W := List.take_of_length_le (by rw [List.length_map]; exact Nat.le_refl _)
      rw [e] at hl'
      exact ⟨.ref l', rfl, q H1 l' x1 hl'⟩
/-! ### touched -/
def spTouched (T : Addr) : Sp := fun vs H Q _ => ∃ (a l : Addr) (n p : Nat) (h : List (List Int)) (L : List Int), vs = [.ref a, .ref l, .int p] ∧ HabAt H a h ∧ IsHab n h ∧ IntT H l L ∧ IsPerm n L ∧ 2 ≤ n ∧ n ≤ 5 ∧ p < n ∧ TabG H T ∧ ∀ H' r, Ext none H H' → IntT H' r (touch h L p) → Q (.ref r) H'
theorem ok_touched {f fS fP fB T : Addr} {fd fdS fdP fdB : FuncData} (F : Fun K "touched" "touched" sTouched f fd) (BS : Fx K mg "need_shelf" sNeedS ["habit", "layout"] fS fdS) (GS : FnOk P w K mg base CX0 4 fS fdS ["habit", "layout"] (spNeedS T))
    (BP : Fx K mg "need_place" sNeedP ["habit", "value"] fP fdP) (GP : FnOk P w K mg base CX0 2 fP fdP ["habit", "value"] spNeedP) (BB : Fx K mg "behind_touch" sBT pBT fB fdB) (GB : FnOk P w K mg base CX0 1 fB fdB pBT spBT) :
    FnOk P w K mg base CX0 5 f fd ["habit", "layout", "place"] (spTouched T) := by
  refine F.ok scTouched (fun vs H Q E h => ?_) (fun cdv A outer s H vs Q E hr h => ?_)
  · obtain ⟨a, l, n, p, h, L, rfl, _⟩ := h
    rfl
  · obtain ⟨a, l, n, p, h, L, rfl, hA, hI, hL, hp, h2, h5, hpn, hT, q⟩ := h
    refine ⟨_, pss_cons (ps_expr (fcall BS GS hr (by rfl) (pa_cons (pv 0) (pa_cons (pv 1) pa_nil)))) (pss_cons (ps_expr (fcall BP GP (hr.mono (by decide)) (by rfl) (pa_cons (pv 0) (pa_cons (pv 2) pa_nil))))
      (pss_one (ps_ret (fcall BB GB (hr.mono (by decide)) (by rfl) (pa_cons (pv 0) (pa_cons (pv 1) (pa_cons (pv 2) pa_nil))))))), ?_⟩
    refine ⟨.ref a, rfl, .ref l, rfl, a, l, n, h, L, rfl, hA, hI, hL, hp, h2, h5, hT, fun H1 x1 => ?_⟩
    refine ⟨.ref a, rfl, .int p, rfl, a, n, p, h, rfl, hA.ext x1, hI, hpn, ?_⟩
    exact ⟨.ref a, rfl, .ref l, rfl, .int p, rfl, a, l, n, p, h, L, rfl, hA.ext x1, hI, hL.ext x1, hp, h5, hpn, fun H2 r x2 hr => q H2 r (x1.trans x2) hr⟩
/-! ### after -/
def spAfter (T T2 : Addr) : Sp := fun vs H Q _ => ∃ (a l ww : Addr) (n : Nat) (h : List (List Int)) (L W : List Int), vs = [.ref a, .ref l, .ref ww] ∧ HabAt H a h ∧ IsHab n h ∧ IntT H l L ∧ IsPerm n L ∧ 2 ≤ n ∧ n ≤ 5 ∧ IntT H ww W ∧ (∀ z ∈ W, 0 ≤ z ∧ z < (n : Int)) ∧ W.length ≤ 400 ∧ TabG H T ∧ TabG H T2 ∧
  ∀ H' r, Ext none H H' → IntT H' r (along h L W) → Q (.ref r) H'
theorem ok_after {f f1 fS fB c T T2 : Addr} {fd fd1 fdS fdB : FuncData} (F : Fun K "after" "after" sAfter f fd) (hc : fd.code = .ref c) (TB : TabB base mg c T2) (B1 : Fx K mg "is_number" sNum ["value", "low", "high"] f1 fd1)
    (BS : Fx K mg "need_shelf" sNeedS ["habit", "layout"] fS fdS) (GS : FnOk P w K mg base CX0 4 fS fdS ["habit", "layout"] (spNeedS T))
    (BB : Fx K mg "behind_word" sBW ["habit", "layout", "word"] fB fdB) (GB : FnOk P w K mg base CX0 2 fB fdB ["habit", "layout", "word"] spBW) (N : Nm mg) (C : Nc mg) :
    FnOk P w K mg base CX0 5 f fd ["habit", "layout", "word"] (spAfter T T2) := by
  obtain ⟨t3, mW⟩ := C.word
  refine fun_okC F hc scAfter (fun vs H Q E h => ?_) (fun A outer s H vs Q E hr h => ?_)
  · obtain ⟨a, l, ww, n, h, L, W, rfl, _⟩ := h
    rfl
  · obtain ⟨a, l, ww, n, h, L, W, rfl, hA, hI, hL, hp, h2, h5, hW, hw, h400, hT, hT2, q⟩ := h
    refine ⟨_, pss_cons (ps_expr (fcall BS GS hr (by rfl) (pa_cons (pv 0) (pa_cons (pv 1) pa_nil))))
      (pss_cons (ps_if (PW.pt (pw_or (pt_not (pt_val (pe_callB call_isi (by rfl) N.isinstance boot_isinstance (pa_cons (pv 2) (pa_cons (pe_bltn (v := .ty "tuple") (by rfl) N.tuple boot_tuple' rfl) pa_nil)))))
        (pw_or1 (pt_cmpR op_gt (pe_callB call_len_seq (by rfl) N.len PySem.boot_len (pa_cons (pv 2) pa_nil)) (pe_glob (v := .int 400) rfl mW ⟨_, rfl⟩) (nomark _))))) pss_never pss_nil)
      (pss_cons (ps_if (pt_not (pt_val (pe_allI (C := fun pb σ H => ∃ (a : Addr) (xs : List V), σ[0]? = some (some (.ref a)) ∧ H a = some (.tup xs) ∧ pb = fun (c : Int) => decide (0 ≤ c) && decide (c ≤ xs.length - 1)) (hr.mono (by decide : 1 ≤ 4)) (by rfl) N.all TB rfl ⟨rfl, rfl, by decide +kernel, by decide +kernel, by decide +kernel, ?_⟩ (pv 2) (fun pins σ H s pb I hT hC => ?_) (fun v => by rfl)))) pss_never pss_nil)
      (pss_one (ps_ret (fcall BB GB (hr.mono (by decide)) (by rfl) (pa_cons (pv 0) (pa_cons (pv 1) (pa_cons (pv 2) pa_nil)))))))), ?_⟩
    · exact free_cells (by decide +kernel)
    · obtain ⟨a, xs, hσ, ha, rfl⟩ := hC
      refine elt_len (i := 0) B1.F B1.b N B1.g ?_ rfl rfl rfl rfl ?_ ?_ rfl rfl rfl rfl rfl (fun env => by rfl) I hT hσ ha
      · exact room_dp hr
      · decide +kernel
      · exact free_cells (by decide +kernel)
    · refine ⟨.ref a, rfl, .ref l, rfl, a, l, n, h, L, rfl, hA, hI, hL, hp, h2, h5, hT, fun H1 x1 => ?_⟩
      refine ⟨.ref ww, rfl, _, _, .type "tuple", .type "tuple", true, rfl, .ty _, .base (.tup (hW.ext x1)), rfl, true, rfl, iteF ?_⟩
      refine ⟨.ref ww, rfl, ww, _, rfl, .inr (hW.ext x1).sq, _, _, rfl, rfl, _, rfl, ?_⟩
      rw [decide_eq_false (by rw [List.length_map]; omega)]
      obtain ⟨xs, eA, hl⟩ := hA.len hI
      refine iteF ⟨.ref ww, rfl, ww, W, _, rfl, (hW.ext x1).sq, ⟨a, xs, rfl, x1.tup eA, rfl⟩, x1.tab T2 hT2, fun H2 tb => ?_⟩
      have hall : (W.all fun c => decide (0 ≤ c) && decide (c ≤ (xs.length : Int) - 1)) = true := by
        rw [List.all_eq_true]
        intro x hx
        have := hw x hx
        simp only [Bool.and_eq_true, decide_eq_true_eq]
        omega
      rw [hall]
      have x2 : Ext none H H2 := x1.trans (Ext.tabbed (x1.tab T2 hT2) tb)
      exact ⟨true, rfl, iteF ⟨.ref a, rfl, .ref l, rfl, .ref ww, rfl, a, l, ww, n, h, L, W, rfl, hA.ext x2, hI, hL.ext x2, hp, h5, hW.ext x2, hw, fun H3 r x3 hr => q H3 r (x2.trans x3) hr⟩⟩
end
end K01

set_option Elab.async false
set_option linter.all false
set_option maxRecDepth 100000
set_option maxHeartbeats 4000000
namespace K01
open PySem PySem.Spec PyProof.Rows L2 GxR
/-! ### dicts whose keys are tuples of ints -/
abbrev kL (l : List Int) : List Key := l.map Sum.inl
theorem kL_v (l : List Int) : (kL l).map kV = l.map V.int := by rw [List.map_map]; rfl
theorem kL_inj : ∀ {a b : List Int}, kL a = kL b → a = b
  | [], [], _ => rfl
  | [], _ :: _, e => by cases e
  | _ :: _, [], e => by cases e
  | x :: a, y :: b, e => by
    have e1 := List.cons.inj e
    rw [Sum.inl.inj e1.1, kL_inj e1.2]
theorem dget_int {H : Hp} {d b : Addr} {kvs : List (List Key × V)} {l : List Int} (e : H d = some (.dT kvs)) (hb : IntT H b l) : DGet H d (.ref b) (valV kvs (kL l)) := DGet.t e (by rw [kL_v]; exact hb)
theorem dput_int {H : Hp} {d b : Addr} {kvs : List (List Key × V)} {l : List Int} {v : V} (e : H d = some (.dT kvs)) (hb : IntT H b l) (hl : kvs.length < sizeLine) : DPut H d (.ref b) v (upd H d (.dT (putK kvs (kL l) v))) := DPut.t e (by rw [kL_v]; exact hb) hl
theorem val_some {ks : List (List Int)} {x : List Int} : ∀ {kvs : List (List Key × V)}, kvs.map (·.1) = ks.map kL → (valV kvs (kL x)).isSome = decide (x ∈ ks) := by
  intro kvs e
  rw [← valV_any, Bool.eq_iff_iff, List.any_eq_true, decide_eq_true_eq]
  constructor
  · rintro ⟨kv, hm, h⟩
    have h1 : kv.1 ∈ kvs.map (·.1) := List.mem_map.mpr ⟨kv, hm, rfl⟩
    rw [e, of_decide_eq_true h] at h1
    obtain ⟨y, hy, ey⟩ := List.mem_map.mp h1
    rw [← kL_inj ey]
    exact hy
  · intro hx
    have h1 : kL x ∈ kvs.map (·.1) := by rw [e]; exact List.mem_map.mpr ⟨x, hx, rfl⟩
    obtain ⟨kv, hm, h⟩ := List.mem_map.mp h1
    exact ⟨kv, hm, decide_eq_true h⟩
theorem val_none {ks : List (List Int)} {x : List Int} {kvs : List (List Key × V)} (e : kvs.map (·.1) = ks.map kL) (h : ¬ x ∈ ks) : valV kvs (kL x) = none := by
  have q := val_some (x := x) e
  rw [decide_eq_false h] at q
  cases z : valV kvs (kL x) with
  | none => rfl
  | some v => rw [z] at q; cases q
/-- an entry: a layout and its word's tuple -/
def KW (H : Hp) (kv : List Key × V) (t : Lay × List Int) : Prop := kv.1 = kL t.1 ∧ ∃ b, kv.2 = .ref b ∧ IntT H b t.2
abbrev Words (H : Hp) (kvs : List (List Key × V)) (F : PW Lay) : Prop := Paired (KW H) kvs F
theorem KW.ext {H H' : Hp} {kv : List Key × V} {t : Lay × List Int} (h : KW H kv t) (x : Ext none H H') : KW H' kv t := let ⟨e, b, e2, i⟩ := h; ⟨e, b, e2, i.ext x⟩
theorem words_ext {H H' : Hp} {kvs : List (List Key × V)} {F : PW Lay} (h : Words H kvs F) (x : Ext none H H') : Words H' kvs F := Paired.mono (fun _ _ k => k.ext x) h
theorem words_keys {H : Hp} : ∀ {kvs : List (List Key × V)} {F : PW Lay}, Words H kvs F → kvs.map (·.1) = (F.map (·.1)).map kL
  | _, _, .nil => rfl
  | _, _, .cons h t => by
    rw [List.map_cons, List.map_cons, List.map_cons, words_keys t, h.1]
theorem words_val {H : Hp} {x : Lay × List Int} : ∀ {kvs : List (List Key × V)} {F : PW Lay}, Words H kvs F → (F.map (·.1)).Nodup → x ∈ F → ∃ b, valV kvs (kL x.1) = some (.ref b) ∧ IntT H b x.2
  | _, _, .nil, _, hx => by cases hx
  | kv :: kvs, t :: F, .cons h r, nd, hx => by
    rw [List.map_cons, List.nodup_cons] at nd
    rcases List.mem_cons.mp hx with e | hx
    · obtain ⟨e1, b, e2, i⟩ := h
      rw [e]
      exact ⟨b, by rw [valV_pos e1, e2], i⟩
    · have ne : ¬ kv.1 = kL x.1 := fun z => by
        rw [h.1] at z
        rw [kL_inj z] at nd
        exact nd.1 (List.mem_map.mpr ⟨x, hx, rfl⟩)
      rw [valV_neg ne]
      exact words_val r nd.2 hx
theorem intT_at {H : Hp} {b p : Addr} {l : List Int} {o : HO} (h : IntT H b l) (n : b ≠ p) : IntT (upd H p o) b l := by
  unfold IntT
  rw [upd_ne n]
  exact h
theorem intT_new {H : Hp} {b p : Addr} {l : List Int} {o : HO} (h : IntT H b l) (n : H p = none) : IntT (upd H p o) b l := intT_at h (ne_of_none h n)
theorem intT_set {H : Hp} {b p : Addr} {l : List Int} {o : HO} (h : IntT H b l) (e : H p = some o) (n : ∀ xs, o ≠ .tup xs) {o' : HO} : IntT (upd H p o') b l := intT_at h fun z => by
  unfold IntT at h
  rw [z, e] at h
  exact n _ (Option.some.inj h)
theorem tups_set {H : Hp} {p : Addr} {o o' : HO} {bs : List Addr} {ls : List (List Int)} (t : TupsAt H bs ls) (e : H p = some o) (n : ∀ xs, o ≠ .tup xs) : TupsAt (upd H p o') bs ls := Paired.mono (fun b l h => intT_set (b := b) (l := l) h e n) t
theorem words_set {H : Hp} {p : Addr} {o o' : HO} {kvs : List (List Key × V)} {F : PW Lay} (t : Words H kvs F) (e : H p = some o) (n : ∀ xs, o ≠ .tup xs) : Words (upd H p o') kvs F := Paired.mono (fun kv t h => let ⟨e1, b, e2, i⟩ := h; ⟨e1, b, e2, intT_set i e n⟩) t
theorem paired_get {α β : Type} {R : α → β → Prop} : ∀ {as : List α} {bs : List β} {i : Nat} {a : α}, Paired R as bs → as[i]? = some a → ∃ b, bs[i]? = some b ∧ R a b
  | _, _, 0, _, .cons h _, e => ⟨_, rfl, by cases e; exact h⟩
  | _, _, i + 1, _, .cons _ t, e => paired_get (i := i) t e
theorem tups_one {H : Hp} {b : Addr} {l : List Int} (h : IntT H b l) : TupsAt H [b] [l] := .cons h .nil
end K01

set_option Elab.async false
set_option linter.all false
set_option maxRecDepth 100000
set_option maxHeartbeats 4000000
namespace K01
open PySem PySem.Spec PyProof.Rows L2 GxR
section
variable {P : Program} {w : World} {K : PySem.W.Frag} {mg : Str → Option Value} {base : Heap}
def spWF : Sp := fun vs H Q _ => ∃ (a l : Addr) (n : Nat) (h : List (List Int)) (L : List Int), vs = [.ref a, .ref l] ∧ HabAt H a h ∧ IsHab n h ∧ IntT H l L ∧ IsPerm n L ∧ n ≤ 5 ∧
  ∀ H' d kvs, Ext none H H' → H d = none → H' d = some (.dT kvs) → Words H' kvs (found h L) → Q (.ref d) H'
/-- within a round: the dict d, the list c of those that are new -/
structure WfIn (H H' : Hp) (d c : Addr) (n : Nat) (F0 cs : PW Lay) : Prop where
  ext : Ext none H H'
  nd : H d = none
  nc : H c = none
  dc : d ≠ c
  good : Good n (acc F0 cs)
  dict : ∃ kvs, H' d = some (.dT kvs) ∧ Words H' kvs (acc F0 cs)
  late : ∃ bs : List Addr, H' c = some (.lst (bs.map V.ref)) ∧ TupsAt H' bs ((fresh (F0.map (·.1)) cs).map (·.1))
/-- at a round's start -/
structure WfAt (H H' : Hp) (d y : Addr) (h : List (List Int)) (L : List Int) (r : Nat) : Prop where
  ext : Ext none H H'
  nd : H d = none
  small : r ≤ 3125
  full : ∀ j < r, (stS h L j).2 ≠ []
  dict : ∃ kvs, H' d = some (.dT kvs) ∧ Words H' kvs (stS h L r).1
  layer : ∃ bs : List Addr, H' y = some (.lst (bs.map V.ref)) ∧ TupsAt H' bs ((stS h L r).2.map (·.1))
theorem fresh_len {F0 cs : PW Lay} {n : Nat} (G : Good n (acc F0 cs)) (hn : n ≤ 5) : (fresh (F0.map (·.1)) cs).length ≤ 3125 := by
  have e := G.len hn
  rw [acc_eq, List.length_append] at e
  omega
theorem small_line {n : Nat} (h : n ≤ 4000) : n < sizeLine := Nat.lt_of_le_of_lt h (by decide)
/-- another object is new -/
theorem WfIn.more {H H' H'' : Hp} {d c : Addr} {n : Nat} {F0 cs : PW Lay} (W : WfIn H H' d c n F0 cs) (x : Ext none H' H'') : WfIn H H'' d c n F0 cs := by
  obtain ⟨kvs, e1, t1⟩ := W.dict
  obtain ⟨bs, e2, t2⟩ := W.late
  exact ⟨W.ext.trans x, W.nd, W.nc, W.dc, W.good, ⟨kvs, x.dT e1, words_ext t1 x⟩, ⟨bs, x.lst e2, x.tups t2⟩⟩
/-- a new one: into the dict, behind the list -/
theorem WfIn.add {H H' : Hp} {d c o v : Addr} {n : Nat} {F0 cs : PW Lay} {T : Lay} {wd : List Int} (W : WfIn H H' d c n F0 cs) (hn : n ≤ 5) (new : ¬ T ∈ (acc F0 cs).map (·.1)) (ho : IntT H' o T) (hv : IntT H' v wd) (hT : IsPerm n T) (hw : ∀ z ∈ wd, 0 ≤ z ∧ z < (n : Int)) :
    ∃ kvs xs, H' d = some (.dT kvs) ∧ kvs.length < sizeLine ∧ upd H' d (.dT (putK kvs (kL T) (.ref v))) c = some (.lst xs) ∧ xs.length < sizeLine ∧ WfIn H (upd (upd H' d (.dT (putK kvs (kL T) (.ref v)))) c (.lst (xs ++ [.ref o]))) d c n F0 (cs ++ [(T, wd)]) := by
  obtain ⟨kvs, ed, tk⟩ := W.dict
  obtain ⟨bs, ec, tb⟩ := W.late
  have l1 : kvs.length ≤ 3125 := by rw [tk.length]; exact W.good.len hn
  have l2 : bs.length ≤ 3125 := by rw [tb.length, List.length_map]; exact fresh_len W.good hn
  have nK := val_none (words_keys tk) new
  have ec2 : upd H' d (.dT (putK kvs (kL T) (.ref v))) c = some (.lst (bs.map V.ref)) := by rw [upd_ne (Ne.symm W.dc)]; exact ec
  have ho1 : IntT (upd H' d (.dT (putK kvs (kL T) (.ref v)))) o T := intT_set ho ed (fun xs z => nomatch z)
  refine ⟨kvs, _, ed, small_line (by omega), ec2, small_line (by rw [List.length_map]; omega), ?_⟩
  rw [putK_new _ nK] at ec2 ho1 ⊢
  refine ⟨(W.ext.set W.nd ed (fun ps z => nomatch z)).set W.nc ec2 (fun ps z => nomatch z), W.nd, W.nc, W.dc, ?_, ⟨kvs ++ [(kL T, .ref v)], ?_, ?_⟩, ⟨bs ++ [o], ?_, ?_⟩⟩
  · rw [acc_snoc]
    exact W.good.ins hT hw
  · rw [upd_ne W.dc, upd_same]
  · rw [acc_new new]
    exact Paired.snoc (words_set (words_set tk ed (fun xs z => nomatch z)) ec2 (fun xs z => nomatch z)) ⟨rfl, v, rfl, intT_set (intT_set hv ed (fun xs z => nomatch z)) ec2 (fun xs z => nomatch z)⟩
  · rw [upd_same, List.map_append]
    rfl
  · rw [fresh_new new, List.map_append]
    exact Paired.snoc (tups_set (tups_set tb ed (fun xs z => nomatch z)) ec2 (fun xs z => nomatch z)) (intT_set ho1 ec2 (fun xs z => nomatch z))
theorem WfIn.old {H H' : Hp} {d c : Addr} {n : Nat} {F0 cs : PW Lay} {x : Lay × List Int} (W : WfIn H H' d c n F0 cs) (h : x.1 ∈ (acc F0 cs).map (·.1)) : WfIn H H' d c n F0 (cs ++ [x]) := by
  refine ⟨W.ext, W.nd, W.nc, W.dc, ?_, ?_, ?_⟩
  · rw [acc_old h]; exact W.good
  · rw [acc_old h]; exact W.dict
  · rw [fresh_old h]; exact W.late
theorem ok_WF {f fB : Addr} {fd fdB : FuncData} (F : Fun K "words_from" "words_from" sWF f fd) (BB : Fx K mg "behind_touch" sBT pBT fB fdB) (GB : FnOk P w K mg base CX0 1 fB fdB pBT spBT) (N : Nm mg) : FnOk P w K mg base CX0 2 f fd ["habit", "layout"] spWF := by
  refine F.ok scWF (fun vs H Q E h => ?_) (fun cdv A outer s H vs Q E hr h => ?_)
  · obtain ⟨a, l, n, h, L, rfl, _⟩ := h
    rfl
  · obtain ⟨a, l, n, h, L, rfl, hA, hI, hL, hp, h5, q⟩ := h
    refine ⟨_, pss_cons (ps_par (i := 2) (j := 3) (by rfl) scWF.nd rfl rfl (by decide) rfl rfl (pa_cons (pe_disp1 hr.units (pv 1) (pe_tup pa_nil)) (pa_cons (pe_lst (pa_cons (pv 1) pa_nil)) pa_nil)) (by rfl))
      (pss_cons (ps_while PassesOwn.never (pt_truth (pv 3) (fun _ => rfl)) (pss_cons (ps_set (i := 4) scWF.nd rfl (.inl rfl) (pe_lst pa_nil))
        (pss_cons (ps_for PassesOwn.never rfl (pi_list (pv 3)) (pg_name (i := 5) scWF.nd rfl (.inl rfl)) (pss_one (ps_for PassesOwn.never rfl (pi_range1 (by rfl) N.range (pa_cons (pe_callB call_len_seq (by rfl) N.len PySem.boot_len (pa_cons (pv 0) pa_nil)) pa_nil)) (pg_name (i := 6) scWF.nd rfl (.inl rfl))
          (pss_cons (ps_set (i := 7) scWF.nd rfl (.inl rfl) (fcall BB GB hr (by rfl) (pa_cons (pv 0) (pa_cons (pv 5) (pa_cons (pv 6) pa_nil)))))
          (pss_one (ps_if (pt_cmp (pc_dnotin (hu_of hr) (pv 7) (pv 2))) (pss_cons (ps_dput (hu_of hr) (pv 2) (pv 7) (pe_op op_catA (pe_dget (hu_of hr) (pv 2) (pv 5) (fun _ _ => rfl)) (pe_tup (pa_cons (pv 6) pa_nil))) rfl)
            (pss_one (ps_expr (pe_bm PySem.F.plainAttrs_list PySem.F.slot_list_append PySem.F.type_list_append mt_append (pv 4) (pa_cons (pv 7) pa_nil))))) pss_nil))))))
        (pss_one (ps_set (i := 3) scWF.nd rfl (.inl rfl) (pv 4))))))
      (pss_one (ps_ret (pv 2)))), ?_⟩
    obtain ⟨xs, eA, hlen⟩ := hA.len hI
    subst hlen
    have hk : h.length = xs.length := hI.len
    -- found, layer = {layout: ()}, [layout]
    refine fun d nd => ⟨.ref l, rfl, Nat.zero_le _, fun e ne => ?_⟩
    have hL1 : IntT (upd (upd H d (.dT [])) e (.tup [])) l L := intT_new (intT_new hL nd) ne
    have dne : d ≠ e := fun z => by rw [← z, upd_same] at ne; cases ne
    have hd1 : upd (upd H d (.dT [])) e (.tup []) d = some (.dT []) := by rw [upd_ne dne, upd_same]
    refine ⟨l, L, rfl, hL1, hd1, .ref l, rfl, by show (1 : Nat) ≤ sizeLine; decide, fun y ny => ⟨_, _, rfl, ?_⟩⟩
    have hx1 : Ext none H (upd (upd H d (.dT [])) e (.tup [])) := (Ext.new nd).trans (.new ne)
    have hx2 := hx1.set (o' := .dT [(L.map Sum.inl, V.ref e)]) nd hd1 (fun ps z => nomatch z)
    have start : WfAt H (upd (upd (upd (upd H d (.dT [])) e (.tup [])) d (.dT [(L.map Sum.inl, V.ref e)])) y (.lst [.ref l])) d y h L 0 := by
      refine ⟨hx2.trans (.new ny), nd, Nat.zero_le _, fun j hj => absurd hj (Nat.not_lt_zero j), ⟨[(L.map Sum.inl, V.ref e)], ?_, .cons ⟨rfl, e, rfl, ?_⟩ .nil⟩, ⟨[l], upd_same, tups_one ?_⟩⟩
      · rw [upd_ne (fun z => by rw [← z, upd_same] at ny; cases ny), upd_same]
      · refine intT_new (intT_at ?_ (Ne.symm dne)) ny
        exact upd_same
      · exact intT_new (intT_set hL1 hd1 (fun xs z => nomatch z)) ny
    refine ⟨fun m σ H' => ∃ r d y z4 z5 z6 z7, σ = [some (.ref a), some (.ref l), some (.ref d), some (.ref y), z4, z5, z6, z7] ∧ m = 3126 - r ∧ WfAt H H' d y h L r, ⟨3126, 0, d, y, none, none, none, none, rfl, rfl, start⟩, ?_⟩
    rintro m σ H1 ⟨r, d, y, z4, z5, z6, z7, rfl, rfl, W⟩
    obtain ⟨bs, ey, tb⟩ := W.layer
    refine ⟨.ref y, rfl, !(bs.map V.ref).isEmpty, .inl ⟨_, .inl (.inl ey), rfl⟩, ?_⟩
    have hbl : bs.length = (stS h L r).2.length := by rw [tb.length, List.length_map]
    by_cases hemp : (stS h L r).2 = []
    · -- the end
      have e1 : bs = [] := by rw [hemp] at hbl; exact List.eq_nil_of_length_eq_zero hbl
      rw [e1]
      obtain ⟨kvs, ed, tk⟩ := W.dict
      rw [found_of hI h5 hp W.full hemp] at tk
      exact iteF ⟨.ref d, rfl, q H1 d kvs W.ext W.nd ed tk⟩
    · have e1 : (!(bs.map V.ref).isEmpty) = true := by
        cases bs with
        | nil => exact absurd (List.eq_nil_of_length_eq_zero hbl.symm) hemp
        | cons b bs => rfl
      rw [e1]
      have hr1 : r + 1 ≤ 3125 := stS_rounds hI h5 hp fun j hj => by
        rcases Nat.lt_or_eq_of_le hj with z | z
        · exact W.full j z
        · rw [z]; exact hemp
      have wlen : ∀ t ∈ (stS h L r).2, t.2.length ≤ 3125 := fun t ht => by
        have := st_word r t ht
        omega
      have G0 := stS_good hI hp r
      obtain ⟨hE, hE2⟩ := st_round (h := h) (L := L) r
      have sub := st_lay_sub (f := touch h) (k := h.length) (L := L) r
      obtain ⟨kvs0, ed0, tk0⟩ := W.dict
      generalize hF0 : (stS h L r).1 = F0 at *
      generalize hE0 : (stS h L r).2 = E0 at *
      have nr := W.nd
      refine iteT ⟨_, fun σ' H' h' => h', Nat.zero_le _, fun c nc => ?_⟩
      have nc' : H c = none := W.ext.dom c nc
      have dcne : d ≠ c := ne_of_none ed0 nc
      have ycne : y ≠ c := ne_of_none ey nc
      have x1 : Ext none H1 (upd H1 c (.lst [])) := .new nc
      have in0 : WfIn H (upd H1 c (.lst [])) d c xs.length F0 [] := by
        refine ⟨W.ext.trans x1, nr, nc', dcne, ?_, ⟨kvs0, x1.dT ed0, ?_⟩, ⟨[], upd_same, .nil⟩⟩
        · exact G0
        · exact words_ext tk0 x1
      -- for one in layer
      refine ⟨.ref y, rfl, y, rfl, ⟨_, .inl (.inl (x1.lst ey))⟩, for_list (K := K) (a := y) (xs := bs.map V.ref) (fun i σ' H2 => ∃ z5 z6 z7, σ' = [some (.ref a), some (.ref l), some (.ref d), some (.ref y), some (.ref c), z5, z6, z7] ∧
        WfIn H H2 d c xs.length F0 (cands (touch h) h.length (E0.take i)) ∧ H2 y = some (.lst (bs.map V.ref)) ∧ TupsAt H2 bs (E0.map (·.1))) ⟨z5, z6, z7, rfl, ?_, x1.lst ey, x1.tups tb⟩ (fun i σ' H2 _ ⟨_, _, _, _, _, e, _⟩ => .inl (.inl e)) ?_ ?_⟩
      · exact in0
      · rintro i x σ2 H2 hx ⟨z5, z6, z7, rfl, W2, ey2, tb2⟩
        rw [List.getElem?_map] at hx
        obtain ⟨b, eb, rfl⟩ := Option.map_eq_some_iff.mp hx
        obtain ⟨T0, eT0, ib⟩ := paired_get tb2 eb
        rw [List.getElem?_map] at eT0
        obtain ⟨t, et, rfl⟩ := Option.map_eq_some_iff.mp eT0
        have tE := List.mem_of_getElem? et
        have tF := sub t tE
        have tok := G0.ok t tF
        have twl := wlen t tE
        -- for place in range(len(habit))
        refine ⟨.ref a, rfl, a, xs, rfl, .inr (.inl (.inl (W2.ext.tup eA))), _, rfl, by have := hI.len; omega, by have := hI.len; omega, for_range (lo := 0) (n := xs.length) (fun j σ' H3 => ∃ z6 z7, σ' = [some (.ref a), some (.ref l), some (.ref d), some (.ref y), some (.ref c), some (.ref b), z6, z7] ∧
          WfIn H H3 d c xs.length F0 (cut (touch h) h.length E0 i j t) ∧ H3 y = some (.lst (bs.map V.ref)) ∧ TupsAt H3 bs (E0.map (·.1))) ⟨z6, z7, rfl, by rw [cut_zero]; exact W2, ey2, tb2⟩ ?_ ?_⟩
        · rintro j σ3 H3 hj ⟨z6, z7, rfl, W3, ey3, tb3⟩
          rw [Int.zero_add]
          obtain ⟨T1, eT1, ib3⟩ := paired_get tb3 eb
          rw [List.getElem?_map, et] at eT1
          cases eT1
          -- other = behind_touch(habit, one, place)
          refine ⟨.ref a, rfl, .ref b, rfl, .int j, rfl, a, b, xs.length, j, h, t.1, rfl, hA.ext W3.ext, hI, ib3, tok.1, h5, hj, fun H4 o x4 ho => ?_⟩
          have W4 := W3.more x4
          have ey4 := x4.lst ey3
          have tb4 := x4.tups tb3
          obtain ⟨kvs4, ed4, tk4⟩ := W4.dict
          have vs := val_some (x := touch h t.1 j) (words_keys tk4)
          refine ⟨.ref o, rfl, .ref d, rfl, d, _, rfl, dget_int ed4 ho, _, rfl, ?_⟩
          rw [vs]
          by_cases old : touch h t.1 j ∈ (acc F0 (cut (touch h) h.length E0 i j t)).map (·.1)
          · rw [decide_eq_true old]
            refine iteF ⟨_, _, rfl, ?_, ey4, tb4⟩
            rw [cut_succ (by omega)]
            exact W4.old old
          · rw [decide_eq_false old]
            obtain ⟨wb, ewb, iwb⟩ := words_val tk4 W4.good.nd (acc_sub tF)
            obtain ⟨cg1, cg2⟩ := cand_good hI hj tok
            have cont : ∀ H5 v, Ext none H4 H5 → IntT H5 v (t.2 ++ [(j : Int)]) → ∃ kvs xs', H5 d = some (.dT kvs) ∧ kvs.length < sizeLine ∧ upd H5 d (.dT (putK kvs (kL (touch h t.1 j)) (.ref v))) c = some (.lst xs') ∧ xs'.length < sizeLine ∧
                WfIn H (upd (upd H5 d (.dT (putK kvs (kL (touch h t.1 j)) (.ref v)))) c (.lst (xs' ++ [.ref o]))) d c xs.length F0 (cut (touch h) h.length E0 i (j + 1) t) ∧
                upd (upd H5 d (.dT (putK kvs (kL (touch h t.1 j)) (.ref v)))) c (.lst (xs' ++ [.ref o])) y = some (.lst (bs.map V.ref)) ∧ TupsAt (upd (upd H5 d (.dT (putK kvs (kL (touch h t.1 j)) (.ref v)))) c (.lst (xs' ++ [.ref o]))) bs (E0.map (·.1)) := by
              intro H5 v x5 hv
              have W5 := W4.more x5
              obtain ⟨kvs, xs', ed, l1, ec, l2, W6⟩ := W5.add h5 old (ho.ext x5) hv cg1 cg2
              have ey5 := x5.lst ey4
              have yd : y ≠ d := fun z => by rw [z, ed] at ey5; cases ey5
              refine ⟨kvs, xs', ed, l1, ec, l2, ?_, ?_, ?_⟩
              · rw [cut_succ (by omega)]; exact W6
              · rw [upd_ne ycne, upd_ne yd]; exact ey5
              · exact tups_set (tups_set (x5.tups tb4) ed (fun xs z => nomatch z)) ec (fun xs z => nomatch z)
            have fin : ∀ H5 v, Ext none H4 H5 → IntT H5 v (t.2 ++ [(j : Int)]) → ∀ (R : Prop), (∀ kvs xs', H5 d = some (.dT kvs) → kvs.length < sizeLine → upd H5 d (.dT (putK kvs (kL (touch h t.1 j)) (.ref v))) c = some (.lst xs') → xs'.length < sizeLine →
                WfIn H (upd (upd H5 d (.dT (putK kvs (kL (touch h t.1 j)) (.ref v)))) c (.lst (xs' ++ [.ref o]))) d c xs.length F0 (cut (touch h) h.length E0 i (j + 1) t) →
                upd (upd H5 d (.dT (putK kvs (kL (touch h t.1 j)) (.ref v)))) c (.lst (xs' ++ [.ref o])) y = some (.lst (bs.map V.ref)) → TupsAt (upd (upd H5 d (.dT (putK kvs (kL (touch h t.1 j)) (.ref v)))) c (.lst (xs' ++ [.ref o]))) bs (E0.map (·.1)) → R) → R := by
              intro H5 v x5 hv R k
              obtain ⟨kvs, xs', a1, a2, a3, a4, a5, a6, a7⟩ := cont H5 v x5 hv
              exact k kvs xs' a1 a2 a3 a4 a5 a6 a7
            refine iteT ⟨.ref d, rfl, .ref b, rfl, d, .ref wb, rfl, by rw [← ewb]; exact dget_int ed4 (IntT.ext (L := t.1) ib3 x4), .int j, rfl, by show (1 : Nat) ≤ sizeLine; decide, fun p1 np1 => ?_⟩
            have x5 : Ext none H4 (upd H4 p1 (.tup [.int (j : Int)])) := .new np1
            refine ⟨wb, p1, t.2.map V.int, [.int (j : Int)], rfl, rfl, (iwb.ext x5).sq, .inl (.inl upd_same), ?_, fun e0 => ?_, fun _ e1 => absurd e1 (List.cons_ne_nil _ _), fun _ _ p2 np2 => ?_⟩
            · rw [List.length_map]
              have : (sizeLine : Nat) ≥ 4000 := by decide
              show t.2.length + 1 ≤ sizeLine
              omega
            · have e2 : t.2 = [] := List.map_eq_nil_iff.mp e0
              refine fin _ p1 x5 ?_ _ fun kvs xs' ed l1 ec l2 W6 ey6 tb6 => ?_
              · rw [e2]; exact upd_same
              · exact ⟨.ref d, rfl, .ref o, rfl, d, _, rfl, dput_int ed (ho.ext x5) l1, .ref c, rfl, .inl ⟨rfl, _, .inl (.inl ec)⟩, .ref o, rfl, c, _, _, rfl, rfl, ec, l2, _, _, rfl, W6, ey6, tb6⟩
            · have x6 := x5.trans (Ext.new (o := .tup (t.2.map V.int ++ [.int (j : Int)])) np2)
              refine fin _ p2 x6 ?_ _ fun kvs xs' ed l1 ec l2 W6 ey6 tb6 => ?_
              · unfold IntT
                rw [upd_same, List.map_append]
                try rfl
              · exact ⟨.ref d, rfl, .ref o, rfl, d, _, rfl, dput_int ed (ho.ext x6) l1, .ref c, rfl, .inl ⟨rfl, _, .inl (.inl ec)⟩, .ref o, rfl, c, _, _, rfl, rfl, ec, l2, _, _, rfl, W6, ey6, tb6⟩
        · rintro σ3 H3 ⟨z6, z7, rfl, W3, ey3, tb3⟩
          have e3 := cut_end (f := touch h) (k := h.length) et
          rw [hk] at e3
          rw [hk, e3] at W3
          exact ⟨_, _, _, rfl, by rw [hk]; exact W3, ey3, tb3⟩
      · rintro σ2 H2 ⟨z5, z6, z7, rfl, W2, ey2, tb2⟩
        have e1 : E0.take (bs.map V.ref).length = E0 := List.take_of_length_le (by rw [List.length_map, hbl]; exact Nat.le_refl _)
        rw [e1] at W2
        obtain ⟨kvs, ed, tk⟩ := W2.dict
        obtain ⟨cs, ec, tc⟩ := W2.late
        refine ⟨.ref c, rfl, 3126 - (r + 1), by omega, r + 1, d, c, _, _, _, _, rfl, rfl, W2.ext, nr, hr1, fun j hj => ?_, ⟨kvs, ed, by rw [hE]; exact tk⟩, ⟨cs, ec, by rw [hE2]; exact tc⟩⟩
        rcases Nat.lt_or_eq_of_le (Nat.le_of_lt_succ hj) with z | z
        · exact W.full j z
        · rw [z, hE0]; exact hemp
end
end K01

set_option Elab.async false
set_option linter.all false
set_option maxRecDepth 100000
set_option maxHeartbeats 4000000
namespace K01
open PySem PySem.Spec PyProof.Rows L2 GxR
/-! ### small facts -/
theorem words_split {H : Hp} : ∀ {kvs : List (List Key × V)} {F : PW Lay}, Words H kvs F → ∃ ws : List (List Int × V), kvs = ws.map (fun t => (t.1.map Sum.inl, t.2)) ∧ ws.map (·.1) = F.map (·.1)
  | _, _, .nil => ⟨[], rfl, rfl⟩
  | kv :: _, t :: _, .cons h r => by
    obtain ⟨ws, e1, e2⟩ := words_split r
    refine ⟨(t.1, kv.2) :: ws, ?_, ?_⟩
    · rw [List.map_cons, ← e1, ← show kv.1 = t.1.map Sum.inl from h.1]
    · rw [List.map_cons, List.map_cons, e2]
/-- the layout in which each book stands where it is called -/
def idL (n : Nat) : Lay := (List.range n).map fun (i : Nat) => (i : Int)
theorem idL_rg (n : Nat) : (idL n).map V.int = rgV 0 n := by
  unfold idL rgV
  rw [List.map_map, show ((n : Int) - 0).toNat = n by omega]
  refine List.map_congr_left fun i _ => ?_
  show V.int (i : Int) = V.int (0 + (i : Int))
  rw [Int.zero_add]
theorem idL_perm (n : Nat) : IsPerm n (idL n) := by
  refine ⟨by unfold idL; simp, fun x hx => ?_, ?_⟩
  · obtain ⟨i, hi, e⟩ := List.mem_map.mp hx
    have := List.mem_range.mp hi
    omega
  · exact nodup_map_on List.nodup_range fun x _ y _ e => by omega
theorem perm_ne {n : Nat} {L : Lay} (h : IsPerm n L) (h2 : 2 ≤ n) : L ≠ [] := fun e => by
  have := h.len
  rw [e] at this
  simp at this
  omega
section
variable {P : Program} {w : World} {K : PySem.W.Frag} {mg : Str → Option Value} {base : Heap}
abbrev pWF : List Str := ["habit", "layout"]
/-! ### can_come -/
def spCC (T : Addr) : Sp := fun vs H Q _ => ∃ (a l : Addr) (n : Nat) (h : List (List Int)) (L : List Int), vs = [.ref a, .ref l] ∧ HabAt H a h ∧ IsHab n h ∧ IntT H l L ∧ IsPerm n L ∧ 2 ≤ n ∧ n ≤ 5 ∧ TabG H T ∧
  ∀ H' r, Ext none H H' → HabAt H' r (srt ((found h L).map (·.1))) → Q (.ref r) H'
theorem ok_CC {f fS fW T : Addr} {fd fdS fdW : FuncData} (F : Fun K "can_come" "can_come" sCC f fd) (BS : Fx K mg "need_shelf" sNeedS pWF fS fdS) (GS : FnOk P w K mg base CX0 4 fS fdS pWF (spNeedS T))
    (BW : Fx K mg "words_from" sWF pWF fW fdW) (GW : FnOk P w K mg base CX0 2 fW fdW pWF spWF) (N : Nm mg) : FnOk P w K mg base CX0 5 f fd pWF (spCC T) := by
  refine F.ok scCC (fun vs H Q E h => ?_) (fun cdv A outer s H vs Q E hr h => ?_)
  · obtain ⟨a, l, n, h, L, rfl, _⟩ := h
    rfl
  · obtain ⟨a, l, n, h, L, rfl, hA, hI, hL, hp, h2, h5, hT, q⟩ := h
    refine ⟨_, pss_cons (ps_expr (fcall BS GS hr (by rfl) (pa_cons (pv 0) (pa_cons (pv 1) pa_nil))))
      (pss_one (ps_ret (pe_tupleOf (by rfl) N.tuple (pe_callB (call_sortedDT rfl hr.units) (by rfl) N.sorted boot_sorted' (pa_cons (fcall BW GW (hr.mono (by decide)) (by rfl) (pa_cons (pv 0) (pa_cons (pv 1) pa_nil))) pa_nil))))), ?_⟩
    refine ⟨.ref a, rfl, .ref l, rfl, a, l, n, h, L, rfl, hA, hI, hL, hp, h2, h5, hT, fun H1 x1 => ?_⟩
    refine ⟨.ref a, rfl, .ref l, rfl, a, l, n, h, L, rfl, hA.ext x1, hI, hL.ext x1, hp, h5, fun H2 d kvs x2 nd ed tk => ?_⟩
    obtain ⟨ws, e1, e2⟩ := words_split tk
    rw [e1] at ed
    refine ⟨d, ws, rfl, .inl ed, fun t ht => ?_, fun p bs np tb => ?_⟩
    · have h1 : t.1 ∈ ws.map (·.1) := List.mem_map.mpr ⟨t, ht, rfl⟩
      rw [e2] at h1
      obtain ⟨s, hs, es⟩ := List.mem_map.mp h1
      rw [← es]
      exact perm_ne (found_perm hI hp s hs) h2
    · have x3 : Ext none H2 (upd H2 p (.lst (bs.map V.ref))) := .new np
      refine .inl ⟨p, _, rfl, .inl (.inl upd_same), fun r nr => ?_⟩
      have x4 : Ext none H2 _ := x3.trans (.new (o := .tup (bs.map V.ref)) nr)
      refine q _ r (x1.trans (x2.trans x4)) ⟨bs, upd_same, ?_⟩
      rw [e2] at tb
      exact x4.tups tb
/-! ### word_between, distance -/
def spWB (T : Addr) : Sp := fun vs H Q _ => ∃ (a l o : Addr) (n : Nat) (h : List (List Int)) (L O : List Int), vs = [.ref a, .ref l, .ref o] ∧ HabAt H a h ∧ IsHab n h ∧ IntT H l L ∧ IsPerm n L ∧ IntT H o O ∧ IsPerm n O ∧ 2 ≤ n ∧ n ≤ 5 ∧ TabG H T ∧
  (∀ H' b t, Ext none H H' → t ∈ found h L → t.1 = O → IntT H' b t.2 → Q (.ref b) H') ∧ ∀ H', Ext none H H' → ¬ O ∈ (found h L).map (·.1) → Q .non H'
theorem ok_WB {f fS fL fW T : Addr} {fd fdS fdL fdW : FuncData} (F : Fun K "word_between" "word_between" sWB f fd) (BS : Fx K mg "need_shelf" sNeedS pWF fS fdS) (GS : FnOk P w K mg base CX0 4 fS fdS pWF (spNeedS T))
    (BL : Fx K mg "need_layout" sNeedL ["habit", "value"] fL fdL) (GL : FnOk P w K mg base CX0 3 fL fdL ["habit", "value"] (spNeedL T))
    (BW : Fx K mg "words_from" sWF pWF fW fdW) (GW : FnOk P w K mg base CX0 2 fW fdW pWF spWF) (N : Nm mg) : FnOk P w K mg base CX0 5 f fd ["habit", "one", "other"] (spWB T) := by
  refine F.ok scWB (fun vs H Q E h => ?_) (fun cdv A outer s H vs Q E hr h => ?_)
  · obtain ⟨a, l, o, n, h, L, O, rfl, _⟩ := h
    rfl
  · obtain ⟨a, l, o, n, h, L, O, rfl, hA, hI, hL, hp, hO, hpO, h2, h5, hT, q1, q2⟩ := h
    refine ⟨_, pss_cons (ps_expr (fcall BS GS hr (by rfl) (pa_cons (pv 0) (pa_cons (pv 1) pa_nil)))) (pss_cons (ps_expr (fcall BL GL (hr.mono (by decide)) (by rfl) (pa_cons (pv 0) (pa_cons (pv 2) pa_nil))))
      (pss_one (ps_ret (pe_dget1 (hu_of hr) (fcall BW GW (hr.mono (by decide)) (by rfl) (pa_cons (pv 0) (pa_cons (pv 1) pa_nil))) (pv 2) ⟨by rfl, by rfl, by rfl, by rfl⟩)))), ?_⟩
    refine ⟨.ref a, rfl, .ref l, rfl, a, l, n, h, L, rfl, hA, hI, hL, hp, h2, h5, hT, fun H1 x1 => ?_⟩
    refine ⟨.ref a, rfl, .ref o, rfl, a, o, n, h, O, rfl, hA.ext x1, hI, hO.ext x1, hpO, h5, x1.tab T hT, fun H2 y2 => ?_⟩
    have x2 := x1.trans y2
    refine ⟨.ref a, rfl, .ref l, rfl, a, l, n, h, L, rfl, hA.ext x2, hI, hL.ext x2, hp, h5, fun H3 d kvs y3 nd ed tk => ?_⟩
    have x3 := x2.trans y3
    refine ⟨d, rfl, .inr ⟨kvs, .inl ed⟩, .ref o, rfl, _, dget_int ed (hO.ext x3), ?_⟩
    by_cases hin : O ∈ (found h L).map (·.1)
    · obtain ⟨t, ht, et⟩ := List.mem_map.mp hin
      obtain ⟨b, eb, ib⟩ := words_val tk found_nodup ht
      rw [et] at eb
      rw [eb]
      exact q1 H3 b t x3 ht et ib
    · rw [val_none (words_keys tk) hin]
      exact q2 H3 x3 hin
def spDist (T : Addr) : Sp := fun vs H Q _ => ∃ (a l o : Addr) (n : Nat) (h : List (List Int)) (L O : List Int), vs = [.ref a, .ref l, .ref o] ∧ HabAt H a h ∧ IsHab n h ∧ IntT H l L ∧ IsPerm n L ∧ IntT H o O ∧ IsPerm n O ∧ 2 ≤ n ∧ n ≤ 5 ∧ TabG H T ∧
  (∀ H' t, Ext none H H' → t ∈ found h L → t.1 = O → Q (.int (t.2.length : Nat)) H') ∧ ∀ H', Ext none H H' → ¬ O ∈ (found h L).map (·.1) → Q .non H'
theorem ok_dist {f fW T : Addr} {fd fdW : FuncData} (F : Fun K "distance" "distance" sDist f fd) (BW : Fx K mg "word_between" sWB ["habit", "one", "other"] fW fdW) (GW : FnOk P w K mg base CX0 5 fW fdW ["habit", "one", "other"] (spWB T)) (N : Nm mg) :
    FnOk P w K mg base CX0 6 f fd ["habit", "one", "other"] (spDist T) := by
  refine F.ok scDist (fun vs H Q E h => ?_) (fun cdv A outer s H vs Q E hr h => ?_)
  · obtain ⟨a, l, o, n, h, L, O, rfl, _⟩ := h
    rfl
  · obtain ⟨a, l, o, n, h, L, O, rfl, hA, hI, hL, hp, hO, hpO, h2, h5, hT, q1, q2⟩ := h
    refine ⟨_, pss_cons (ps_set (i := 3) scDist.nd rfl (.inl rfl) (fcall BW GW hr (by rfl) (pa_cons (pv 0) (pa_cons (pv 1) (pa_cons (pv 2) pa_nil)))))
      (pss_one (ps_ret (pe_ifExp (pt_cmp (pc_isN (pv 3))) pe_non (pe_callB call_len_seq (by rfl) N.len PySem.boot_len (pa_cons (pv 3) pa_nil))))), ?_⟩
    refine ⟨.ref a, rfl, .ref l, rfl, .ref o, rfl, a, l, o, n, h, L, O, rfl, hA, hI, hL, hp, hO, hpO, h2, h5, hT, fun H1 b t x1 ht et ib => ?_, fun H1 x1 hin => ?_⟩
    · refine ⟨.ref b, rfl, false, rfl, iteF ⟨.ref b, rfl, b, _, rfl, .inr ib.sq, ?_⟩⟩
      rw [List.length_map]
      exact q1 H1 t x1 ht et
    · exact ⟨.non, rfl, true, rfl, iteT (q2 H1 x1 hin)⟩
/-! ### farthest, order -/
def spFar (T : Addr) : Sp := fun vs H Q _ => ∃ (a l : Addr) (n : Nat) (h : List (List Int)) (L : List Int), vs = [.ref a, .ref l] ∧ HabAt H a h ∧ IsHab n h ∧ IntT H l L ∧ IsPerm n L ∧ 2 ≤ n ∧ n ≤ 5 ∧ TabG H T ∧
  ∀ H' m, Ext none H H' → m ∈ (found h L).map (fun t => ((t.2.length : Nat) : Int)) → (∀ y ∈ (found h L).map (fun t => ((t.2.length : Nat) : Int)), y ≤ m) → Q (.int m) H'
theorem found_pos {h : List Lay} {L : Lay} : 0 < (found h L).length := by rw [found_eq]; exact List.length_pos_of_mem (st_start 3125)
theorem found_size {n : Nat} {h : List Lay} (H : IsHab n h) (hn : n ≤ 5) {L : Lay} (hL : IsPerm n L) : (found h L).length ≤ 3125 := by rw [found_eq]; exact stS_size H hn hL 3125
theorem ok_far {f fS fW T : Addr} {fd fdS fdW : FuncData} (F : Fun K "farthest" "farthest" sFar f fd) (BS : Fx K mg "need_shelf" sNeedS pWF fS fdS) (GS : FnOk P w K mg base CX0 4 fS fdS pWF (spNeedS T))
    (BW : Fx K mg "words_from" sWF pWF fW fdW) (GW : FnOk P w K mg base CX0 2 fW fdW pWF spWF) (N : Nm mg) : FnOk P w K mg base CX0 5 f fd pWF (spFar T) := by
  refine F.ok scFar (fun vs H Q E h => ?_) (fun cdv A outer s H vs Q E hr h => ?_)
  · obtain ⟨a, l, n, h, L, rfl, _⟩ := h
    rfl
  · obtain ⟨a, l, n, h, L, rfl, hA, hI, hL, hp, h2, h5, hT, q⟩ := h
    refine ⟨_, pss_cons (ps_expr (fcall BS GS hr (by rfl) (pa_cons (pv 0) (pa_cons (pv 1) pa_nil))))
      (pss_one (ps_ret (pe_callB (cr_max rfl) (by rfl) N.max boot_max' (pa_cons (pe_lc (own := [("word", 2)]) (g := gName 2) rfl scFar.nd (pi_valuesT (fcall BW GW (hr.mono (by decide)) (by rfl) (pa_cons (pv 0) (pa_cons (pv 1) pa_nil)))) (blkOk_by (N := nFar) (sc := defScope sFar) (by decide +kernel))
        (fun _ _ _ _ _ => pg_name (i := 2) scFar.nd rfl (Or.inl rfl)) (fun _ _ _ _ _ => pts_nil) (fun _ _ _ _ _ => pe_callB (r := fun xs H Q => ∃ p ys, xs = [.ref p] ∧ (SqL K H p ys ∨ SqT K H p ys) ∧ Q (.int ys.length) H) call_len_seq (by rfl) N.len PySem.boot_len (pa_cons (pv 2) pa_nil))) pa_nil)))), ?_⟩
    refine ⟨.ref a, rfl, .ref l, rfl, a, l, n, h, L, rfl, hA, hI, hL, hp, h2, h5, hT, fun H1 x1 => ?_⟩
    refine ⟨.ref a, rfl, .ref l, rfl, a, l, n, h, L, rfl, hA.ext x1, hI, hL.ext x1, hp, h5, fun H2 d kvs x2 nd ed tk => ?_⟩
    have nd0 : H d = none := x1.dom d nd
    refine ⟨d, kvs, rfl, ed, fun o D nD => ?_⟩
    have xf : Ext none H (upd H2 d (.frz o (.dT kvs))) := (x1.trans x2).set nd0 ed (fun ps z => nomatch z)
    have tkf : Words (upd H2 d (.frz o (.dT kvs))) kvs (found h L) := words_set tk ed (fun xs z => nomatch z)
    have nD0 : H D = none := xf.dom D nD
    have dD : d ≠ D := fun z => by rw [← z, upd_same] at nD; cases nD
    have hkl : kvs.length = (found h L).length := tk.length
    have hsz := found_size hI h5 hp
    have hpos : 0 < (found h L).length := found_pos
    generalize found h L = Fd at *
    refine lc_it (walk_valsT (d := d) (o := o) (kvs := kvs)) (g := gName 2) (tt := fun _ H Q => Q true H) (te := tCB (fun xs H Q => ∃ p ys, xs = [.ref p] ∧ (SqL K H p ys ∨ SqT K H p ys) ∧ Q (.int ys.length) H) (tCons (tVar 2) tNil)) (vs := [2]) (σ := L2.start nFar [.ref a, .ref l]) (Qd := fun H' => rMax K [.ref D] H' Q)
      (fun i H3 => Ext none H H3 ∧ H3 d = some (.frz o (.dT kvs)) ∧ H3 D = some (.lst ((Fd.take i).map fun t => V.int (t.2.length : Nat))) ∧ Words H3 kvs Fd)
      ⟨xf.trans (.new nD), by rw [upd_ne dD, upd_same], upd_same, words_ext tkf (.new nD)⟩ (fun i H3 _ x => x.2.1) ?_ ?_
    · rintro i v H3 H4 hi ⟨x3, ef, eD, tk3⟩ ⟨rfl, k, ek⟩
      obtain ⟨t, et, e1, b, e2, ib⟩ := paired_get tk3 ek
      have e3 : v = .ref b := e2
      subst e3
      refine ⟨rfl, iteT ⟨.ref b, rfl, b, _, rfl, .inr ib.sq, _, eD, ?_, x3.set nD0 eD (fun ps z => nomatch z), ?_, ?_, words_set tk3 eD (fun xs z => nomatch z)⟩⟩
      · rw [List.length_map, List.length_take]
        exact small_line (by omega)
      · rw [upd_ne dD]; exact ef
      · rw [upd_same, List.take_add_one, List.map_append, et, List.length_map]
        rfl
    · rintro H3 ⟨x3, ef, eD, tk3⟩
      rw [hkl, List.take_length] at eD
      refine ⟨D, Fd.map fun t => ((t.2.length : Nat) : Int), rfl, .inl (.inl ?_), by rw [List.length_map]; exact hpos, fun m hm hmax => q H3 m x3 hm hmax⟩
      rw [eD, List.map_map]
      rfl
def spOrd (T : Addr) : Sp := fun vs H Q _ => ∃ (a : Addr) (n : Nat) (h : List (List Int)), vs = [.ref a] ∧ HabAt H a h ∧ IsHab n h ∧ 2 ≤ n ∧ n ≤ 5 ∧ TabG H T ∧ ∀ H', Ext none H H' → Q (.int ((found h (idL n)).length : Nat)) H'
theorem ok_ord {f fH fW T : Addr} {fd fdH fdW : FuncData} (F : Fun K "order" "order" sOrder f fd) (BH : Fx K mg "need_habit" sNeedH ["value"] fH fdH) (GH : FnOk P w K mg base CX0 3 fH fdH ["value"] (spNeedH T))
    (BW : Fx K mg "words_from" sWF pWF fW fdW) (GW : FnOk P w K mg base CX0 2 fW fdW pWF spWF) (N : Nm mg) : FnOk P w K mg base CX0 4 f fd ["habit"] (spOrd T) := by
  refine F.ok scOrder (fun vs H Q E h => ?_) (fun cdv A outer s H vs Q E hr h => ?_)
  · obtain ⟨a, n, h, rfl, _⟩ := h
    rfl
  · obtain ⟨a, n, h, rfl, hA, hI, h2, h5, hT, q⟩ := h
    refine ⟨_, pss_cons (ps_expr (fcall BH GH hr (by rfl) (pa_cons (pv 0) pa_nil)))
      (pss_one (ps_ret (pe_callB call_len_dT (by rfl) N.len PySem.boot_len (pa_cons (fcall BW GW (hr.mono (by decide)) (by rfl) (pa_cons (pv 0) (pa_cons (pe_tupRg rfl (by rfl) N.tuple (prg_1 (by rfl) N.range (pe_callB call_len_seq (by rfl) N.len PySem.boot_len (pa_cons (pv 0) pa_nil)))) pa_nil))) pa_nil)))), ?_⟩
    refine ⟨.ref a, rfl, a, n, h, rfl, hA, hI, h2, h5, hT, fun H1 x1 => ?_⟩
    obtain ⟨xs, eA, hl⟩ := (hA.ext x1).len hI
    refine ⟨.ref a, rfl, .ref a, rfl, a, xs, rfl, .inr (.inl (.inl eA)), _, rfl, ?_⟩
    rw [hl]
    refine ⟨.of_le (by omega) (by omega) (by omega) (by omega), fun l nl => ?_⟩
    have x2 : Ext none H1 (upd H1 l (.tup (rgV 0 n))) := .new nl
    refine ⟨a, l, n, h, idL n, rfl, (hA.ext x1).ext x2, hI, ?_, idL_perm n, h5, fun H3 d kvs x3 nd ed tk => ⟨d, kvs, rfl, ed, ?_⟩⟩
    · show upd H1 l (.tup (rgV 0 n)) l = some (.tup ((idL n).map V.int))
      rw [upd_same, idL_rg]
    · rw [tk.length]
      exact q H3 (x1.trans (x2.trans x3))
end
end K01

set_option Elab.async false
set_option linter.all false
set_option maxRecDepth 100000
set_option maxHeartbeats 1000000
namespace K01
open PySem PySem.Spec PyProof.Rows L2 GxR
/-! ### the draws -/
/-- the row of draws at r: the script, how far it is read, a mixed number, a cell's rest -/
def RowA (H : Hp) (r scr : Addr) : Prop := ∃ a b c : Int, H r = some (.lst [.ref scr, .int a, .int b, .int c]) ∧ 0 ≤ a
def RowOk (K : PySem.W.Frag) (H : Hp) (r : Addr) (z : Addr × List Int) : Prop := RowA H r z.1 ∧ SqL K H z.1 (z.2.map V.int)
theorem rd_ne {H : Hp} {p : Addr} {o : HO} {xs : List V} (e : H p = some o) (h : Rd H p (.lst xs)) : o = .lst xs ∨ ∃ ob, o = .frz ob (.lst xs) := by
  rcases h with h | ⟨ob, h⟩
  · rw [e] at h; exact .inl (Option.some.inj h)
  · rw [e] at h; exact .inr ⟨ob, Option.some.inj h⟩
theorem scr_ne {K : PySem.W.Frag} {H : Hp} {scr r : Addr} {ns : List Int} {x : Addr} {ys : List V} (e : H r = some (.lst (.ref x :: ys))) (h : Rd H scr (.lst (ns.map V.int))) : scr ≠ r := fun z => by
  rw [z] at h
  rcases rd_ne e h with q | ⟨ob, q⟩
  · have q2 := HO.lst.inj q
    cases ns with
    | nil => cases q2
    | cons n ns =>
      have q3 := (List.cons.inj q2).1
      cases q3
  · cases q
theorem SqL.ext {K : PySem.W.Frag} {H H' : Hp} {w : Option Addr} {a : Addr} {xs : List V} (x : Ext w H H') (n : some a ≠ w) (h : SqL K H a xs) : SqL K H' a xs := by
  rcases h with h | h
  · rcases h with h | ⟨o, h⟩
    · exact .inl (.inl (x.keep a _ n h fun ps z => nomatch z))
    · exact .inl (.inr ⟨o, x.keep a _ n h fun ps z => nomatch z⟩)
  · exact .inr h
theorem RowA.ext {H H' : Hp} {r scr : Addr} (x : Ext none H H') (h : RowA H r scr) : RowA H' r scr := let ⟨a, b, c, e, h0⟩ := h; ⟨a, b, c, x.lst e, h0⟩
theorem RowOk.ext {K : PySem.W.Frag} {H H' : Hp} {r : Addr} {z : Addr × List Int} (x : Ext none H H') (h : RowOk K H r z) : RowOk K H' r z := ⟨h.1.ext x, SqL.ext x (fun z => nomatch z) h.2⟩
theorem RowA.upd {H : Hp} {r scr p : Addr} {o : HO} (h : RowA H r scr) (n : p ≠ r) : RowA (upd H p o) r scr := let ⟨a, b, c, e, h0⟩ := h; ⟨a, b, c, by rw [upd_ne (Ne.symm n)]; exact e, h0⟩
/-- the row is written -/
theorem row_set {K : PySem.W.Frag} {H : Hp} {r scr : Addr} {a b c a' b' c' : Int} {ns : List Int} (e : H r = some (.lst [.ref scr, .int a, .int b, .int c])) (hs : SqL K H scr (ns.map V.int)) :
    upd H r (.lst [.ref scr, .int a', .int b', .int c']) r = some (.lst [.ref scr, .int a', .int b', .int c']) ∧ SqL K (upd H r (.lst [.ref scr, .int a', .int b', .int c'])) scr (ns.map V.int) ∧ Ext (some r) H (upd H r (.lst [.ref scr, .int a', .int b', .int c'])) := by
  have x := Ext.row (o' := .lst [.ref scr, .int a', .int b', .int c']) (Ext.refl (w := some r) (H := H)) e (fun ps z => nomatch z)
  refine ⟨upd_same, ?_, x⟩
  rcases hs with h | h
  · exact SqL.ext x (fun z => scr_ne (K := K) e h (Option.some.inj z)) (.inl h)
  · exact .inr h
theorem scr_keep {K : PySem.W.Frag} {H H' : Hp} {r : Addr} {z : Addr × List Int} (x : Ext (some r) H H') (h : RowOk K H r z) : SqL K H' z.1 (z.2.map V.int) := by
  obtain ⟨⟨a, b, c, e, _⟩, hs⟩ := h
  rcases hs with h | h
  · exact SqL.ext x (fun z => scr_ne (K := K) e h (Option.some.inj z)) (.inl h)
  · exact .inr h
/-- the script stands as it stood -/
theorem RowOk.from {K : PySem.W.Frag} {H H' : Hp} {r : Addr} {z : Addr × List Int} (h : RowOk K H r z) (x : Ext (some r) H H') (k : RowA H' r z.1) : RowOk K H' r z := ⟨k, scr_keep x h⟩
section
variable {P : Program} {w : World} {K : PySem.W.Frag} {mg : Str → Option Value} {base : Heap}
def spTaken (K : PySem.W.Frag) : Sp := fun vs H Q _ => ∃ (r : Addr) (m : Int) (z : Addr × List Int), vs = [.ref r, .int m] ∧ 0 < m ∧ m < 1000 ∧ RowOk K H r z ∧ ∀ H' v, Ext (some r) H H' → RowOk K H' r z → 0 ≤ v → v < m → Q (.int v) H'
theorem ok_taken {f : Addr} {fd : FuncData} (F : Fun K "_law_taken" "_law_taken" sTaken f fd) (N : Nm mg) : FnOk P w K mg base CX0 1 f fd ["_law_row", "_law_many"] (spTaken K) := by
  refine F.ok scTaken (fun vs H Q E h => ?_) (fun cdv A outer s H vs Q E hr h => ?_)
  · obtain ⟨r, m, z, rfl, _⟩ := h
    rfl
  · obtain ⟨r, m, ⟨scr, ns⟩, rfl, h0, h1, ⟨⟨a, b, c, eR, ha⟩, hS⟩, q⟩ := h
    refine ⟨_, pss_cons (ps_if (pt_cmpR op_gt (pe_ix ix_list (pv 0) pe_int (fun _ _ => rfl)) pe_int (nomark _))
        (pss_cons (ps_set (i := 2) scTaken.nd rfl (.inl rfl) (pe_op op_mod (pe_callTy call_int1 (by rfl) N.int boot_int' (pa_cons (pe_ix ix_list (pv 0) pe_int (fun _ _ => rfl)) pa_nil)) (pv 1)))
        (pss_cons (ps_asg (pe_op op_fdiv (pe_ix ix_list (pv 0) pe_int (fun _ _ => rfl)) (pv 1)) (pg_sub (pv 0) pe_int set_list))
        (pss_one (ps_ret (pv 2))))) pss_nil)
      (pss_cons (ps_asg (pe_op op_add (pe_ix ix_list (pv 0) pe_int (fun _ _ => rfl)) pe_int) (pg_sub (pv 0) pe_int set_list))
      (pss_cons (ps_if (pt_cmpR op_gt (pe_ix ix_list (pv 0) pe_int (fun _ _ => rfl)) (pe_callB call_len_seq (by rfl) N.len PySem.boot_len (pa_cons (pe_ix ix_list (pv 0) pe_int (fun _ _ => rfl)) pa_nil)) (nomark _))
        (pss_cons (ps_asg (pe_op op_mod (pe_callTy call_int1 (by rfl) N.int boot_int' (pa_cons (pe_op op_add (pe_op op_mul (pe_ix ix_list (pv 0) pe_int (fun _ _ => rfl)) pe_int) pe_int) pa_nil)) pe_int) (pg_sub (pv 0) pe_int set_list))
        (pss_one (ps_ret (pe_op op_mod (pe_callTy call_int1 (by rfl) N.int boot_int' (pa_cons (pe_op op_fdiv (pe_ix ix_list (pv 0) pe_int (fun _ _ => rfl)) pe_int) pa_nil)) (pv 1))))) pss_nil)
      (pss_cons (ps_set (i := 3) scTaken.nd rfl (.inl rfl) (pe_ix ix_list (pe_ix ix_list (pv 0) pe_int (fun _ _ => rfl)) (pe_op op_sub (pe_ix ix_list (pv 0) pe_int (fun _ _ => rfl)) pe_int) (fun _ _ => rfl)))
      (pss_cons (ps_asg (pe_op op_mod (pe_callTy call_int1 (by rfl) N.int boot_int' (pa_cons (pe_op op_add (pe_op op_add (pe_op op_mul (pe_ix ix_list (pv 0) pe_int (fun _ _ => rfl)) pe_int) (pv 3)) pe_int) pa_nil)) pe_int) (pg_sub (pv 0) pe_int set_list))
      (pss_cons (ps_if (pt_cmpR op_ge (pv 3) (pe_op op_pow pe_int pe_int) (nomark _)) (pss_one (ps_asg (pe_op op_fdiv (pv 3) (pv 1)) (pg_sub (pv 0) pe_int set_list))) pss_nil)
      (pss_one (ps_ret (pe_op op_mod (pe_callTy call_int1 (by rfl) N.int boot_int' (pa_cons (pv 3) pa_nil)) (pv 1))))))))), ?_⟩
    have em (v : Int) : 0 ≤ v % m ∧ v % m < m := ⟨Int.emod_nonneg _ (by omega), Int.emod_lt_of_pos _ h0⟩
    have dm : CDiv c m := ⟨h0, by omega⟩
    refine ⟨.ref r, rfl, r, _, 3, .int c, rfl, rfl, .inl (.inl eR), rfl, c, 0, rfl, rfl, _, rfl, ?_⟩
    by_cases hc : 0 < c
    · rw [decide_eq_true hc]
      obtain ⟨e2, s2, x2⟩ := row_set (a' := a) (b' := b) (c' := c / m) eR hS
      exact iteT ⟨.ref r, rfl, r, _, 3, .int c, rfl, rfl, .inl (.inl eR), rfl, .inl ⟨c, rfl, .int m, rfl, c, m, rfl, rfl, h0, .ref r, rfl, r, _, 3, .int c, rfl, rfl, .inl (.inl eR), rfl, .int m, rfl, c, m, rfl, rfl, dm,
        .ref r, rfl, r, _, 3, 3, rfl, rfl, eR, rfl, .int (c % m), rfl, q _ _ x2 ⟨⟨a, b, c / m, e2, ha⟩, s2⟩ (em c).1 (em c).2⟩⟩
    · rw [decide_eq_false hc]
      obtain ⟨e2, s2, x2⟩ := row_set (a' := a + 1) (b' := b) (c' := c) eR hS
      refine iteF ⟨.ref r, rfl, r, _, 1, .int a, rfl, rfl, .inl (.inl eR), rfl, a, 1, rfl, rfl, .ref r, rfl, r, _, 1, 1, rfl, rfl, eR, rfl, ?_⟩
      refine ⟨.ref r, rfl, r, _, 1, .int (a + 1), rfl, rfl, .inl (.inl e2), rfl, .ref r, rfl, r, _, 0, .ref scr, rfl, rfl, .inl (.inl e2), rfl, scr, _, rfl, .inl s2, _, _, rfl, rfl, _, rfl, ?_⟩
      rw [List.length_map]
      by_cases hl : (ns.length : Int) < a + 1
      · rw [decide_eq_true hl]
        obtain ⟨e3, s3, x3⟩ := row_set (a' := a + 1) (b' := (b * 48271 + 11) % 2147483647) (c' := c) e2 s2
        refine iteT ⟨.ref r, rfl, r, _, 2, .int b, rfl, rfl, .inl (.inl e2), rfl, b, 48271, rfl, rfl, .inr ⟨by omega, by omega⟩, _, 11, rfl, rfl, .inl ⟨_, rfl, _, 2147483647, rfl, rfl, by omega, .ref r, rfl, r, _, 2, 2, rfl, rfl, e2, rfl, ?_⟩⟩
        refine ⟨.ref r, rfl, r, _, 2, .int ((b * 48271 + 11) % 2147483647), rfl, rfl, .inl (.inl e3), rfl, _, 7, rfl, rfl, ⟨by omega, by omega⟩, .inl ⟨_, rfl, .int m, rfl, _, m, rfl, rfl, h0, q _ _ (x2.trans x3) ⟨⟨_, _, _, e3, by omega⟩, s3⟩ (em _).1 (em _).2⟩⟩
      · rw [decide_eq_false hl]
        have hat : a.toNat < ns.length := by omega
        have eat : atI (ns.map V.int) (a + 1 - 1) = some (.int ns[a.toNat]) := by
          have q1 : atI (ns.map V.int) ((a.toNat : Nat) : Int) = some (.int ns[a.toNat]) := atI_nat (by rw [List.getElem?_map, List.getElem?_eq_getElem hat]; rfl)
          rw [Int.toNat_of_nonneg ha] at q1
          rw [Int.add_sub_cancel]
          exact q1
        generalize ns[a.toNat] = cell at eat
        refine iteF ⟨.ref r, rfl, r, _, 0, .ref scr, rfl, rfl, .inl (.inl e2), rfl, .ref r, rfl, r, _, 1, .int (a + 1), rfl, rfl, .inl (.inl e2), rfl, _, 1, rfl, rfl, scr, _, _, _, rfl, rfl, s2, eat, ?_⟩
        obtain ⟨e3, s3, x3⟩ := row_set (a' := a + 1) (b' := (b * 48271 + cell + 11) % 2147483647) (c' := c) e2 s2
        refine ⟨.ref r, rfl, r, _, 2, .int b, rfl, rfl, .inl (.inl e2), rfl, b, 48271, rfl, rfl, .inr ⟨by omega, by omega⟩, .int cell, rfl, _, cell, rfl, rfl, _, 11, rfl, rfl, .inl ⟨_, rfl, _, 2147483647, rfl, rfl, by omega, .ref r, rfl, r, _, 2, 2, rfl, rfl, e2, rfl, ?_⟩⟩
        refine ⟨.int cell, rfl, 10, 18, rfl, rfl, ⟨by omega, by omega, by decide⟩, _, _, rfl, rfl, _, rfl, ?_⟩
        by_cases hg : (10 : Int) ^ (18 : Int).toNat ≤ cell
        · rw [decide_eq_true hg]
          obtain ⟨e4, s4, x4⟩ := row_set (a' := a + 1) (b' := (b * 48271 + cell + 11) % 2147483647) (c' := cell / m) e3 s3
          exact iteT ⟨.int cell, rfl, .int m, rfl, cell, m, rfl, rfl, ⟨h0, by omega⟩, .ref r, rfl, r, _, 3, 3, rfl, rfl, e3, rfl, .int cell, rfl, .inl ⟨cell, rfl, .int m, rfl, cell, m, rfl, rfl, h0, q _ _ ((x2.trans x3).trans x4) ⟨⟨_, _, _, e4, by omega⟩, s4⟩ (em _).1 (em _).2⟩⟩
        · rw [decide_eq_false hg]
          exact iteF ⟨.int cell, rfl, .inl ⟨cell, rfl, .int m, rfl, cell, m, rfl, rfl, h0, q _ _ (x2.trans x3) ⟨⟨_, _, _, e3, by omega⟩, s3⟩ (em _).1 (em _).2⟩⟩
end
end K01

set_option Elab.async false
set_option linter.all false
set_option maxRecDepth 100000
set_option maxHeartbeats 1000000
namespace K01
open PySem PySem.Spec PyProof.Rows L2 GxR
/-! ### data of ints -/
theorem dp_ints {K : PySem.W.Frag} {H : Hp} : ∀ ns : List Int, DpAll K H (ns.map V.int) (ns.map PyData.int)
  | [] => .nil
  | n :: r => .cons (.int n) (dp_ints r)
theorem can_ints : ∀ ns : List Int, PyData.canLayAll0 (ns.map PyData.int) = true
  | [] => by simp [PyData.canLayAll0]
  | n :: r => by simp [PyData.canLayAll0, PyData.canLay0, can_ints r]
theorem depth_ints : ∀ ns : List Int, PyData.depthAll (ns.map PyData.int) ≤ 1
  | [] => by simp [PyData.depthAll]
  | n :: r => by
    have := depth_ints r
    simp only [List.map_cons, PyData.depthAll, PyData.depth]
    omega
theorem shaped_lst (ns : List Int) : SeqAt.shaped (.list (ns.map PyData.int)) = true := by
  have h1 := depth_ints ns
  have h2 : PyData.depth (.list (ns.map PyData.int)) ≤ 64 := by simp only [PyData.depth]; omega
  show (PyData.canLay0 (.list (ns.map PyData.int)) && decide (PyData.depth (.list (ns.map PyData.int)) ≤ 64)) = true
  rw [Bool.and_eq_true]
  exact ⟨by simp only [PyData.canLay0]; exact can_ints ns, decide_eq_true h2⟩
theorem shaped_tup (ns : List Int) : SeqAt.shaped (.tuple (ns.map PyData.int)) = true := by
  have h1 := depth_ints ns
  have h2 : PyData.depth (.tuple (ns.map PyData.int)) ≤ 64 := by simp only [PyData.depth]; omega
  show (PyData.canLay0 (.tuple (ns.map PyData.int)) && decide (PyData.depth (.tuple (ns.map PyData.int)) ≤ 64)) = true
  rw [Bool.and_eq_true]
  exact ⟨by simp only [PyData.canLay0]; exact can_ints ns, decide_eq_true h2⟩
theorem eqv_ints : ∀ a b : List Int, PyData.eqvAll (a.map PyData.int) (b.map PyData.int) = decide (a = b)
  | [], [] => by simp [PyData.eqvAll]
  | [], _ :: _ => by simp [PyData.eqvAll]
  | _ :: _, [] => by simp [PyData.eqvAll]
  | x :: a, y :: b => by
    rw [List.map_cons, List.map_cons, PyData.eqvAll, eqv_ints a b]
    simp only [PyData.eqv]
    by_cases h : x = y <;> simp [h]
theorem IntT.dp {K : PySem.W.Frag} {H : Hp} {a : Addr} {L : List Int} (h : IntT H a L) : Dp K H (.ref a) (.tuple (L.map PyData.int)) := .tup h.sq (dp_ints L)
theorem eqv_tup (a b : List Int) : PyData.eqv (.tuple (a.map PyData.int)) (.tuple (b.map PyData.int)) = decide (a = b) := by rw [PyData.eqv, eqv_ints]
theorem eqv_lst (a b : List Int) : PyData.eqv (.list (a.map PyData.int)) (.list (b.map PyData.int)) = decide (a = b) := by rw [PyData.eqv, eqv_ints]
theorem IsPerm.of_perm {n : Nat} {L M : Lay} (p : L.Perm M) (h : IsPerm n L) : IsPerm n M := ⟨by rw [← p.length_eq]; exact h.len, fun x hx => h.rng x (p.mem_iff.mpr hx), p.nodup_iff.mp h.nd⟩
theorem take_one : ∀ {l : List Int} {k : Nat} (hk : k < l.length), (l[k] :: l.eraseIdx k).Perm l
  | [], _, hk => absurd hk (Nat.not_lt_zero _)
  | x :: l, 0, _ => List.Perm.refl _
  | x :: l, k + 1, hk => (List.Perm.swap _ _ _).trans ((take_one (l := l) (k := k) (Nat.lt_of_succ_lt_succ hk)).cons x)
theorem seqIx {v : Int} {k : Nat} (h0 : 0 ≤ v) (h1 : v < k) : seqIndex? v k = some v.toNat := by
  have n : ¬ v < 0 := by omega
  simp [seqIndex?, n, h0, h1]
theorem map_eraseIdx' (f : Int → V) : ∀ (l : List Int) (k : Nat), (l.map f).eraseIdx k = (l.eraseIdx k).map f
  | [], _ => rfl
  | _ :: _, 0 => rfl
  | x :: l, k + 1 => by
    show f x :: (l.map f).eraseIdx k = f x :: (l.eraseIdx k).map f
    rw [map_eraseIdx' f l k]
section
variable {P : Program} {w : World} {K : PySem.W.Frag} {mg : Str → Option Value} {base : Heap}
abbrev pRM : List Str := ["_law_row", "_law_many"]
def spLOrder (K : PySem.W.Frag) : Sp := fun vs H Q _ => ∃ (r : Addr) (n : Nat) (z : Addr × List Int), vs = [.ref r, .int n] ∧ n ≤ 5 ∧ RowOk K H r z ∧ ∀ H' p L, Ext (some r) H H' → RowOk K H' r z → H p = none → IntT H' p L → IsPerm n L → Q (.ref p) H'
theorem row_some {H : Hp} {r : Addr} {z : Addr × List Int} (h : RowOk K H r z) : ∃ xs, H r = some (.lst xs) := let ⟨⟨_, _, _, e, _⟩, _⟩ := h; ⟨_, e⟩
theorem ok_LO {f fT : Addr} {fd fdT : FuncData} (F : Fun K "_law_order" "_law_order" sLOrder f fd) (BT : Fx K mg "_law_taken" sTaken pRM fT fdT) (GT : FnOk P w K mg base CX0 1 fT fdT pRM (spTaken K)) (N : Nm mg) : FnOk P w K mg base CX0 2 f fd pRM (spLOrder K) := by
  refine F.ok scLOrder (fun vs H Q E h => ?_) (fun cdv A outer s H vs Q E hr h => ?_)
  · obtain ⟨r, n, z, rfl, _⟩ := h
    rfl
  · obtain ⟨r, n, z, rfl, h5, hR, q⟩ := h
    refine ⟨_, pss_cons (ps_par (i := 2) (j := 3) (by rfl) scLOrder.nd rfl rfl (by decide) rfl rfl (pa_cons (pe_listRg rfl (by rfl) N.list (prg_1 (by rfl) N.range (pv 1))) (pa_cons (pe_lst pa_nil) pa_nil)) (by rfl))
      (pss_cons (ps_while PassesOwn.never (pt_cmpR (op_neD hr.units) (pv 2) (pe_lst pa_nil) (nomark _))
        (pss_one (ps_expr (pe_bm PySem.F.plainAttrs_list PySem.F.slot_list_append PySem.F.type_list_append mt_append (pv 3) (pa_cons (pe_bm PySem.F.plainAttrs_list PySem.F.slot_list_pop PySem.F.type_list_pop mt_popAt (pv 2)
          (pa_cons (fcall BT GT hr (by rfl) (pa_cons (pv 0) (pa_cons (pe_callB call_len_seq (by rfl) N.len PySem.boot_len (pa_cons (pv 2) pa_nil)) pa_nil))) pa_nil)) pa_nil)))))
      (pss_one (ps_ret (pe_tupleOf (by rfl) N.tuple (pv 3))))), ?_⟩
    obtain ⟨xr, eR⟩ := row_some hR
    refine ⟨.int n, rfl, n, rfl, .of_le (by omega) (by omega) (by omega) (by omega), fun le nle => ⟨Nat.zero_le _, fun fo nfo => ⟨_, _, rfl, ?_⟩⟩⟩
    have nfo0 : H fo = none := upd_none nfo
    have lefo : le ≠ fo := fun z => by rw [← z, upd_same] at nfo; cases nfo
    have ler : le ≠ r := (ne_of_none eR nle).symm
    have forr : fo ≠ r := (ne_of_none eR nfo0).symm
    have x0 : Ext (some r) H (upd (upd H le (.lst (rgV 0 n))) fo (.lst [])) := (Ext.new nle).trans (.new nfo)
    have R0 : RowOk K (upd (upd H le (.lst (rgV 0 n))) fo (.lst [])) r z := RowOk.ext ((Ext.new nle).trans (.new nfo)) hR
    refine ⟨fun m σ H' => ∃ rest fnd : List Int, σ = [some (.ref r), some (.int n), some (.ref le), some (.ref fo)] ∧ m = rest.length ∧ Ext (some r) H H' ∧ RowOk K H' r z ∧ H' le = some (.lst (rest.map V.int)) ∧ H' fo = some (.lst (fnd.map V.int)) ∧ IsPerm n (fnd ++ rest), ⟨_, idL n, [], rfl, rfl, x0, R0, ?_, ?_, idL_perm n⟩, ?_⟩
    · rw [upd_ne lefo, upd_same, idL_rg]
    · exact upd_same
    · rintro m σ H1 ⟨rest, fnd, rfl, rfl, x1, R1, ele, efo, pm⟩
      refine ⟨.ref le, rfl, Nat.zero_le _, fun e ne => ?_⟩
      have xe : Ext none H1 (upd H1 e (.lst [])) := .new ne
      refine ⟨_, _, .lst (.inl (.inl (xe.lst ele))) (dp_ints rest), .lst (.inl (.inl upd_same)) (dp_ints []), shaped_lst rest, shaped_lst [], _, rfl, ?_⟩
      rw [eqv_lst]
      have R2 := RowOk.ext xe R1
      have ele2 := xe.lst ele
      have efo2 := xe.lst efo
      have x2 := x1.trans xe.any
      generalize upd H1 e (.lst []) = H2 at *
      by_cases hne : rest = []
      · rw [decide_eq_true hne]
        rw [hne, List.append_nil] at pm
        refine iteF ⟨.ref fo, rfl, .inl ⟨fo, _, rfl, .inl (.inl efo2), fun p np => q _ p fnd (x2.trans (.new np)) (RowOk.ext (.new np) R2) (x2.dom p np) upd_same pm⟩⟩
      · rw [decide_eq_false hne]
        have lpos : 0 < rest.length := List.length_pos_iff.mpr hne
        have ltot : fnd.length + rest.length = n := by rw [← List.length_append]; exact pm.len
        refine iteT ⟨_, fun σ' H' h' => h', .ref fo, rfl, .inl ⟨rfl, _, .inl (.inl efo2)⟩, .ref le, rfl, .inl ⟨rfl, _, .inl (.inl ele2)⟩, .ref r, rfl, .ref le, rfl, le, _, rfl, .inl (.inl (.inl ele2)), r, _, z, rfl, ?_, ?_, R2, fun H3 v x3 R3 v0 v1 => ?_⟩
        · rw [List.length_map]; omega
        · rw [List.length_map]; omega
        · rw [List.length_map] at v1
          have hk : v.toNat < rest.length := by omega
          have ele3 : H3 le = some (.lst (rest.map V.int)) := x3.keep le _ (fun z => ler (Option.some.inj z)) ele2 fun ps z => nomatch z
          have efo3 : H3 fo = some (.lst (fnd.map V.int)) := x3.keep fo _ (fun z => forr (Option.some.inj z)) efo2 fun ps z => nomatch z
          have x3' := x2.trans x3
          have ix : seqIndex? v (rest.map V.int).length = some v.toNat := seqIx v0 (by rw [List.length_map]; exact v1)
          have efo4 : upd H3 le (.lst ((rest.map V.int).eraseIdx v.toNat)) fo = some (.lst (fnd.map V.int)) := by rw [upd_ne (Ne.symm lefo)]; exact efo3
          have x4 := x3'.set (o' := .lst ((rest.map V.int).eraseIdx v.toNat)) nle ele3 (fun ps z => nomatch z)
          have x5 := x4.set (o' := .lst (fnd.map V.int ++ [.int rest[v.toNat]])) nfo0 efo4 (fun ps z => nomatch z)
          refine ⟨le, _, v, v.toNat, .int rest[v.toNat], rfl, rfl, ele3, by omega, by omega, ix, by rw [List.getElem?_map, List.getElem?_eq_getElem hk]; rfl, fo, _, _, rfl, rfl, efo4, small_line (by rw [List.length_map]; omega), _, ?_, rest.eraseIdx v.toNat, fnd ++ [rest[v.toNat]], rfl, rfl, x5, ?_, ?_, ?_, ?_⟩
          · rw [List.length_eraseIdx_of_lt hk]; omega
          · exact hR.from x5 ((R3.1.upd ler).upd forr)
          · rw [upd_ne lefo, upd_same, map_eraseIdx']
          · rw [upd_same, List.map_append]; rfl
          · refine IsPerm.of_perm ?_ pm
            rw [List.append_assoc]
            exact List.Perm.append_left _ (take_one hk).symm
end
end K01

set_option Elab.async false
set_option linter.all false
set_option maxRecDepth 100000
set_option maxHeartbeats 1000000
namespace K01
open PySem PySem.Spec PyProof.Rows L2 GxR
/-! ### the ways of a habit's row -/
def permB (n : Nat) (L : List Int) : Bool := decide (L.length = n) && L.all (fun x => decide (0 ≤ x) && decide (x < (n : Int))) && decide L.Nodup
theorem perm_of {n : Nat} {L : List Int} (h : permB n L = true) : IsPerm n L := by
  simp only [permB, Bool.and_eq_true, decide_eq_true_eq, List.all_eq_true] at h
  exact ⟨h.1.1, h.1.2, h.2⟩
def rotF (n p : Nat) (i : Nat) : Int := ((i : Int) + (p : Int)) % (n : Int)
def rot (n p : Nat) : List Int := (List.range n).map (rotF n p)
def mvF (p : Nat) (i : Nat) : Int := (i : Int) + (if decide ((i : Int) < (p : Int)) = true then 1 else 0)
def front (n p : Nat) : List Int := ((List.range n).map (mvF p)).take p ++ [0] ++ ((List.range n).map (mvF p)).drop (p + 1)
def prv (p : Nat) : Int := if ((p : Int) - 1) > 0 then (p : Int) - 1 else 0
def swp (n p : Nat) : List Int := ((idL n).set p (prv p)).set (prv p).toNat (p : Int)
theorem small_cases {R : Nat → Nat → Prop} (h : ∀ n ∈ List.range 6, ∀ p ∈ List.range 6, p < n → R n p) {n p : Nat} (hn : n ≤ 5) (hp : p < n) : R n p := h n (List.mem_range.mpr (by omega)) p (List.mem_range.mpr (by omega)) hp
theorem rot_perm {n p : Nat} (hn : n ≤ 5) (hp : p < n) : IsPerm n (rot n p) := perm_of (small_cases (R := fun n p => permB n (rot n p) = true) (by decide +kernel) hn hp)
theorem front_perm {n p : Nat} (hn : n ≤ 5) (hp : p < n) : IsPerm n (front n p) := perm_of (small_cases (R := fun n p => permB n (front n p) = true) (by decide +kernel) hn hp)
theorem swp_perm {n p : Nat} (hn : n ≤ 5) (hp : p < n) : IsPerm n (swp n p) := perm_of (small_cases (R := fun n p => permB n (swp n p) = true) (by decide +kernel) hn hp)
theorem map_set' (f : Int → V) : ∀ (l : List Int) (k : Nat) (v : Int), (l.map f).set k (f v) = (l.set k v).map f
  | [], _, _ => rfl
  | _ :: _, 0, _ => rfl
  | x :: l, k + 1, v => by
    show f x :: (l.map f).set k (f v) = f x :: (l.set k v).map f
    rw [map_set' f l k v]
theorem front_v {n p : Nat} (hp : p < n) : cutV ((List.range n).map fun i => V.int (mvF p i)) none (some (p : Int)) ++ [V.int 0] ++ cutV ((List.range n).map fun i => V.int (mvF p i)) (some ((p : Int) + 1)) none = (front n p).map V.int := by
  have e : ((List.range n).map fun i => V.int (mvF p i)) = ((List.range n).map (mvF p)).map V.int := by rw [List.map_map]; rfl
  have hl : (((List.range n).map (mvF p)).map V.int).length = n := by simp
  have e1 : HT.sIx n n (some (p : Int)) = p := by rw [HT.sIx_nat]; omega
  have e2 : HT.sIx n 0 (some ((p : Int) + 1)) = p + 1 := by rw [show (p : Int) + 1 = ((p + 1 : Nat) : Int) by omega, HT.sIx_nat]; omega
  unfold cutV front
  rw [e, hl, HT.sIx_none, HT.sIx_none, e1, e2, List.drop_zero, Nat.sub_zero, List.map_append, List.map_append, List.map_take, List.map_drop]
  congr 1
  refine List.take_of_length_le ?_
  rw [List.length_drop, hl]
  exact Nat.le_refl _
theorem swp_v {n p : Nat} : ((rgV 0 n).set p (.int (prv p))).set (prv p).toNat (.int (p : Int)) = (swp n p).map V.int := by
  rw [← idL_rg, map_set', map_set']
  rfl
theorem prv_rng {n p : Nat} (hp : p < n) : 0 ≤ prv p ∧ prv p < (n : Int) := by
  unfold prv
  by_cases h : ((p : Int) - 1) > 0
  · rw [if_pos h]; omega
  · rw [if_neg h]; omega
theorem ixN_ok {n : Nat} {i : Int} (h0 : 0 ≤ i) (h1 : i < n) : ixN n i = some i.toNat := by unfold ixN; rw [if_pos h0, if_pos h1]
section
variable {K : PySem.W.Frag}
/-- [f x for x in range(n)] -/
theorem lc_map {te : TE} {σ : L2.St} {H : Hp} {n k : Nat} {f : Nat → Int} {Qd : Addr → Hp → Prop} (hn : n ≤ 5)
    (hte : ∀ (i : Nat) (H' : Hp) (R : VK), i < n → R (.int (f i)) H' → te ((σ.set k none).set k (some (.int i))) H' R)
    (q : ∀ D H', H D = none → Ext none H H' → H' D = some (.lst ((List.range n).map fun i => V.int (f i))) → Qd D H') (D : Addr) (nD : H D = none) :
    ∃ W : Nat → Nat → Hp → Prop, (∃ m, W 0 m (upd H D (.lst []))) ∧ ∀ i m H, W i m H →
      ((Itr 0 n).stop i H ∧ Qd D H) ∨ ((Itr 0 n).go i H ∧ ∃ Nx : Hp → Prop, (∀ H', Nx H' → ∃ m', m' < m ∧ W (i + 1) m' H') ∧ ∀ x H', (Itr 0 n).yld i H x H' → gName k x (wipe σ [k]) H' fun σ2 H2 => wipe σ2 [k] = wipe σ [k] ∧ tYes σ2 H2 fun b H3 =>
        if b = true then te σ2 H3 fun y H4 => ∃ acc, H4 D = some (.lst acc) ∧ acc.length < sizeLine ∧ Nx (upd H4 D (.lst (acc ++ [y]))) else Nx H3) := by
  refine lc_range (lo := 0) (n := n) (g := gName k) (tt := tYes) (te := te) (vs := [k]) (σ := σ) (Qd := fun H => Qd D H)
    (fun i H' => Ext none H H' ∧ H' D = some (.lst ((List.range i).map fun j => V.int (f j)))) ⟨.new nD, upd_same⟩ ?_ ?_
  · rintro i H1 hi ⟨x, eD⟩
    rw [Int.zero_add]
    refine ⟨?_, hte i H1 _ hi ⟨_, eD, small_line (by simp; omega), x.set nD eD (fun ps z => nomatch z), ?_⟩⟩
    · show ((σ.set k none).set k _).set k none = σ.set k none
      rw [List.set_set, List.set_set]
    · rw [upd_same, List.range_succ, List.map_append]
      rfl
  · rintro H2 ⟨x, eD⟩
    exact q D H2 nD x eD
/-! ### the habit as it grows -/
structure HbIn (K : PySem.W.Frag) (H H' : Hp) (r : Addr) (z : Addr × List Int) (fo : Addr) (n i : Nat) : Prop where
  ext : Ext (some r) H H'
  row : RowOk K H' r z
  new : H fo = none
  rows : ∃ (bs : List Addr) (ls : List (List Int)), H' fo = some (.lst (bs.map V.ref)) ∧ TupsAt H' bs ls ∧ ls.length = i ∧ ∀ L ∈ ls, IsPerm n L
theorem extR_int {H H' : Hp} {r a : Addr} {xs : List V} {L : List Int} (x : Ext (some r) H H') (e : H r = some (.lst xs)) (h : IntT H a L) : IntT H' a L :=
  x.keep a _ (fun z => by unfold IntT at h; rw [Option.some.inj z, e] at h; cases h) h fun ps z => nomatch z
variable {H H' H'' : Hp} {r fo p : Addr} {z : Addr × List Int} {n i : Nat}
theorem HbIn.ne (h0 : RowOk K H r z) (h : HbIn K H H' r z fo n i) : fo ≠ r := by
  obtain ⟨xs, e⟩ := row_some h0
  exact (ne_of_none e h.new).symm
theorem HbIn.more (h0 : RowOk K H r z) (h : HbIn K H H' r z fo n i) (x : Ext (some r) H' H'') (k : RowOk K H'' r z) : HbIn K H H'' r z fo n i := by
  obtain ⟨bs, ls, e, t, l, p⟩ := h.rows
  obtain ⟨xs, er⟩ := row_some h.row
  exact ⟨h.ext.trans x, k, h.new, bs, ls, x.keep fo _ (fun z => h.ne h0 (Option.some.inj z)) e (fun ps z => nomatch z), Paired.mono (fun b l q => extR_int (L := l) x er q) t, l, p⟩
theorem HbIn.near (h0 : RowOk K H r z) (h : HbIn K H H' r z fo n i) (x : Ext none H' H'') : HbIn K H H'' r z fo n i := h.more h0 x.any (h.row.ext x)
theorem HbIn.push {L : List Int} (h0 : RowOk K H r z) (h : HbIn K H H' r z fo n i) (hi : i ≤ 5) (hp : IntT H' p L) (hL : IsPerm n L) : ∃ xs, H' fo = some (.lst xs) ∧ xs.length < sizeLine ∧ HbIn K H (upd H' fo (.lst (xs ++ [.ref p]))) r z fo n (i + 1) := by
  obtain ⟨bs, ls, e, t, l, q⟩ := h.rows
  have hl : bs.length = i := by rw [t.length, l]
  have x := h.ext.set (o' := .lst (bs.map V.ref ++ [.ref p])) h.new e (fun ps z => nomatch z)
  refine ⟨_, e, small_line (by rw [List.length_map]; omega), x, h0.from x (h.row.1.upd (h.ne h0)), h.new, bs ++ [p], ls ++ [L], ?_, Paired.snoc (tups_set t e (fun xs z => nomatch z)) (intT_set hp e (fun xs z => nomatch z)), by rw [List.length_append, l]; rfl, fun M hM => ?_⟩
  · rw [upd_same, List.map_append]
    rfl
  · rcases List.mem_append.mp hM with h1 | h1
    · exact q M h1
    · rw [List.mem_singleton.mp h1]
      exact hL
end
end K01

set_option Elab.async false
set_option linter.all false
set_option maxRecDepth 100000
set_option maxHeartbeats 2000000
namespace K01
open PySem PySem.Spec PyProof.Rows L2 GxR
section
variable {P : Program} {w : World} {K : PySem.W.Frag} {mg : Str → Option Value} {base : Heap}
def spLHabit (K : PySem.W.Frag) : Sp := fun vs H Q _ => ∃ (r : Addr) (n : Nat) (z : Addr × List Int), vs = [.ref r, .int n] ∧ n ≤ 5 ∧ RowOk K H r z ∧ ∀ H' a h, Ext (some r) H H' → RowOk K H' r z → HabAt H' a h → IsHab n h → Q (.ref a) H'
theorem ok_LH {f fT fO : Addr} {fd fdT fdO : FuncData} (F : Fun K "_law_habit" "_law_habit" sLHabit f fd) (BT : Fx K mg "_law_taken" sTaken pRM fT fdT) (GT : FnOk P w K mg base CX0 1 fT fdT pRM (spTaken K))
    (BO : Fx K mg "_law_order" sLOrder pRM fO fdO) (GO : FnOk P w K mg base CX0 2 fO fdO pRM (spLOrder K)) (N : Nm mg) : FnOk P w K mg base CX0 3 f fd ["_law_row", "_law_places"] (spLHabit K) := by
  refine F.ok scLHabit (fun vs H Q E h => ?_) (fun cdv A outer s H vs Q E hr h => ?_)
  · obtain ⟨r, n, z, rfl, _⟩ := h
    rfl
  · obtain ⟨r, n, z, rfl, h5, hR, q⟩ := h
    refine ⟨_, pss_cons (ps_par (i := 2) (j := 3) (by rfl) scLHabit.nd rfl rfl (by decide) rfl rfl (pa_cons (fcall BT GT (hr.mono (by decide)) (by rfl) (pa_cons (pv 0) (pa_cons pe_int pa_nil))) (pa_cons (pe_lst pa_nil) pa_nil)) (by rfl))
      (pss_cons (ps_for PassesOwn.never rfl (pi_range1 (by rfl) N.range (pa_cons (pv 1) pa_nil)) (pg_name (i := 4) scLHabit.nd rfl (.inr rfl))
        (pss_one (ps_if (pt_cmpR op_eq (pv 2) pe_int (nomark _))
          (pss_one (ps_expr (pe_bm PySem.F.plainAttrs_list PySem.F.slot_list_append PySem.F.type_list_append mt_append (pv 3) (pa_cons (pe_tupleOf (by rfl) N.tuple
            (pe_lc (own := [("_law_spot", 7)]) (g := gName 7) rfl scLHabit.nd (pi_range1 (by rfl) N.range (pa_cons (pv 1) pa_nil)) (blkOk_by (N := nLHabit) (sc := defScope sLHabit) (by decide +kernel)) (fun _ _ _ _ _ => pg_name (i := 7) scLHabit.nd rfl (Or.inl rfl)) (fun _ _ _ _ _ => pts_nil)
              (fun _ _ _ _ _ => pe_op op_mod (pe_op op_add (pv 7) (pv 4)) (pv 1)))) pa_nil))))
          (pss_one (ps_if (pt_cmpR op_eq (pv 2) pe_int (nomark _))
            (pss_cons (ps_setLc (i := 5) (own := [("_law_spot", 7)]) (g := gName 7) rfl scLHabit.nd rfl rfl rfl (pi_range1 (by rfl) N.range (pa_cons (pv 1) pa_nil)) (blkOk_by (N := nLHabit) (sc := defScope sLHabit) (by decide +kernel)) (fun _ _ _ _ _ => pg_name (i := 7) scLHabit.nd rfl (Or.inl rfl)) (fun _ _ _ _ _ => pts_nil)
              (fun _ _ _ _ _ => pe_op op_add (pv 7) (pe_callTy call_int1 (by rfl) N.int boot_int' (pa_cons (pe_cmpR op_lt (pv 7) (pv 4) (nomark _)) pa_nil))))
            (pss_one (ps_expr (pe_bm PySem.F.plainAttrs_list PySem.F.slot_list_append PySem.F.type_list_append mt_append (pv 3) (pa_cons (pe_tupleOf (by rfl) N.tuple
              (pe_op op_cat (pe_op op_cat (pe_slice sl_list (pv 5) po_none (po_some (pv 4))) (pe_lst (pa_cons pe_int pa_nil))) (pe_slice sl_list (pv 5) (po_some (pe_op op_add (pv 4) pe_int)) po_none))) pa_nil)))))
            (pss_one (ps_if (pt_cmpR op_eq (pv 2) pe_int (nomark _))
              (pss_cons (ps_set (i := 6) scLHabit.nd rfl (.inl rfl) (pe_callB (call_max2 rfl) (by rfl) N.max boot_max' (pa_cons pe_int (pa_cons (pe_op op_sub (pv 4) pe_int) pa_nil))))
              (pss_cons (ps_set (i := 5) scLHabit.nd rfl (.inl rfl) (pe_listRg rfl (by rfl) N.list (prg_1 (by rfl) N.range (pv 1))))
              (pss_cons (ps_asg (pe_tup (pa_cons (pv 6) (pa_cons (pv 4) pa_nil))) (pg_tup rfl (pgs_cons (pg_sub (pv 5) (pv 4) set_list) (pgs_cons (pg_sub (pv 5) (pv 6) set_list) pgs_nil))))
              (pss_one (ps_expr (pe_bm PySem.F.plainAttrs_list PySem.F.slot_list_append PySem.F.type_list_append mt_append (pv 3) (pa_cons (pe_tupleOf (by rfl) N.tuple (pv 5)) pa_nil)))))))
              (pss_one (ps_if (PW.pt (pw_and (pt_cmpR op_eq (pv 2) pe_int (nomark _)) (pw_and1 (pt_cmpR op_eq (fcall BT GT (hr.mono (by decide)) (by rfl) (pa_cons (pv 0) (pa_cons pe_int pa_nil))) pe_int (nomark _)))))
                (pss_one (ps_expr (pe_bm PySem.F.plainAttrs_list PySem.F.slot_list_append PySem.F.type_list_append mt_append (pv 3) (pa_cons (pe_tupRg rfl (by rfl) N.tuple (prg_1 (by rfl) N.range (pv 1))) pa_nil))))
                (pss_one (ps_expr (pe_bm PySem.F.plainAttrs_list PySem.F.slot_list_append PySem.F.type_list_append mt_append (pv 3) (pa_cons (fcall BO GO hr (by rfl) (pa_cons (pv 0) (pa_cons (pv 1) pa_nil))) pa_nil)))))))))))))
      (pss_one (ps_ret (pe_tupleOf (by rfl) N.tuple (pv 3))))), ?_⟩
    obtain ⟨xr, eR⟩ := row_some hR
    refine ⟨.ref r, rfl, r, 5, z, rfl, by omega, by omega, hR, fun H1 way x1 R1 v0 v1 => ⟨Nat.zero_le _, fun fo nfo => ⟨_, _, rfl, ?_⟩⟩⟩
    have hb0 : HbIn K H (upd H1 fo (.lst [])) r z fo n 0 := ⟨x1.trans (.new nfo), R1.ext (.new nfo), x1.dom fo nfo, [], [], upd_same, .nil, rfl, fun L hL => by cases hL⟩
    refine ⟨.int n, rfl, n, rfl, by omega, by omega, for_range (lo := 0) (n := n) (fun i σ H' => ∃ z4 z5 z6 z7, σ = [some (.ref r), some (.int n), some (.int way), some (.ref fo), z4, z5, z6, z7] ∧ HbIn K H H' r z fo n i) ⟨none, none, none, none, rfl, hb0⟩ ?_ ?_⟩
    · rintro i σ H3 hi ⟨z4, z5, z6, z7, rfl, hb⟩
      rw [Int.zero_add]
      have fin : ∀ (H5 : Hp) (p : Addr) (L : List Int), HbIn K H H5 r z fo n i → IntT H5 p L → IsPerm n L → ∃ l xs y, V.ref fo = .ref l ∧ [V.ref p] = [y] ∧ H5 l = some (.lst xs) ∧ xs.length < sizeLine ∧ HbIn K H (upd H5 l (.lst (xs ++ [y]))) r z fo n (i + 1) := fun H5 p L h5' ip pm => by
        obtain ⟨xs, e, l, k⟩ := h5'.push hR (by omega) ip pm
        exact ⟨fo, xs, .ref p, rfl, rfl, e, l, k⟩
      obtain ⟨bs, ls, efo, tfo, _, _⟩ := hb.rows
      have R3 := hb.row
      refine ⟨.int way, rfl, rfl, _, rfl, ite2 (fun _ => ?_) (fun _ => ?_)⟩
      · -- the turning habit
        refine ⟨.ref fo, rfl, .inl ⟨rfl, _, .inl (.inl efo)⟩, .int n, rfl, n, rfl, by omega, by omega, lc_map (f := rotF n i) (k := 7) (σ := [some (.ref r), some (.int n), some (.int way), some (.ref fo), some (.int i), z5, z6, z7]) (te := tOp (rI (fun x j => 0 < j) fun i j => V.int (i % j)) (tOp (rI0 fun i j => V.int (i + j)) (tVar 7) (tVar 4)) (tVar 1)) h5
          (fun j H' R hj hR => ⟨.int j, rfl, .int i, rfl, _, _, rfl, rfl, .int n, rfl, _, _, rfl, rfl, by omega, hR⟩) (fun D H' nD x eD => .inl ⟨D, _, rfl, .inl (.inl eD), fun p np => ?_⟩)⟩
        obtain ⟨l, xs, y, a1, a2, a3, a4, a5⟩ := fin (upd H' p (.tup ((List.range n).map fun j => V.int (rotF n i j)))) p (rot n i) (hb.near hR (x.trans (.new np))) (by unfold IntT rot; rw [upd_same, List.map_map]; rfl) (rot_perm h5 hi)
        exact ⟨l, xs, y, a1, a2, a3, a4, _, _, _, _, rfl, a5⟩
      · refine ⟨.int way, rfl, rfl, _, rfl, ite2 (fun _ => ?_) (fun _ => ?_)⟩
        · -- to the front
          refine ⟨.int n, rfl, n, rfl, by omega, by omega, lc_map (f := mvF i) (k := 7) (σ := [some (.ref r), some (.int n), some (.int way), some (.ref fo), some (.int i), z5, z6, z7]) (te := tOp (rI0 fun i j => V.int (i + j)) (tVar 7) (tCB (fun xs H Q => (∃ i, xs = [.int i] ∧ Q (.int i) H) ∨ ∃ k, xs = [.bl k] ∧ Q (.int (if k then 1 else 0)) H) (tCons (tOp (rI0 fun i j => V.bl (decide (i < j))) (tVar 7) (tVar 4)) tNil))) h5 (fun j H' R hj hR => ⟨.int j, rfl, .int j, rfl, .int i, rfl, _, _, rfl, rfl, .inr ⟨_, rfl, _, _, rfl, rfl, hR⟩⟩) (fun D H4 nD x eD => ?_)⟩
          have hb4 := hb.near hR x
          have e4 := x.lst efo
          refine ⟨.ref fo, rfl, .inl ⟨rfl, _, .inl (.inl e4)⟩, .ref D, rfl, .int i, rfl, _, rfl, D, _, rfl, .inl (.inl eD), fun c nc => ?_⟩
          refine ⟨by show (1 : Nat) ≤ sizeLine; decide, fun d nd => ⟨c, d, _, _, rfl, rfl, by rw [upd_ne (fun q => by rw [← q, upd_same] at nd; cases nd), upd_same], upd_same, ?_, fun e ne => ?_⟩⟩
          · have := cutV_length ((List.range (n : Int).toNat).map fun i_1 => V.int (mvF i i_1)) none (some (i : Int))
            rw [List.length_map, List.length_range] at this
            exact Nat.le_of_lt (small_line (by show _ + 1 ≤ 4000; omega))
          have y1 := (Ext.new (w := none) (o := .lst (cutV ((List.range n).map fun i_1 => V.int (mvF i i_1)) none (some (i : Int)))) nc).trans ((Ext.new (o := .lst [.int 0]) nd).trans (Ext.new (o := .lst (cutV ((List.range n).map fun i_1 => V.int (mvF i i_1)) none (some (i : Int)) ++ [.int 0])) ne))
          refine ⟨.ref D, rfl, .int i, rfl, _, 1, rfl, rfl, _, rfl, D, _, rfl, .inl (.inl (y1.lst eD)), fun g ng => ⟨e, g, _, _, rfl, rfl, by rw [upd_ne (fun q => by rw [← q, upd_same] at ng; cases ng), upd_same], upd_same, ?_, fun k nk => ?_⟩⟩
          · have h1 := cutV_length ((List.range (n : Int).toNat).map fun i_1 => V.int (mvF i i_1)) none (some (i : Int))
            have h2 := cutV_length ((List.range (n : Int).toNat).map fun i_1 => V.int (mvF i i_1)) (some ((i : Int) + 1)) none
            rw [List.length_map, List.length_range] at h1 h2
            rw [List.length_append]
            exact Nat.le_of_lt (small_line (by show _ + 1 + _ ≤ 4000; omega))
          refine .inl ⟨k, _, rfl, .inl (.inl upd_same), fun p np => ?_⟩
          have y2 := y1.trans ((Ext.new (o := .lst (cutV ((List.range n).map fun i_1 => V.int (mvF i i_1)) (some ((i : Int) + 1)) none)) ng).trans ((Ext.new (o := .lst (cutV ((List.range n).map fun i_1 => V.int (mvF i i_1)) none (some (i : Int)) ++ [.int 0] ++ cutV ((List.range n).map fun i_1 => V.int (mvF i i_1)) (some ((i : Int) + 1)) none)) nk).trans (Ext.new (o := .tup (cutV ((List.range n).map fun i_1 => V.int (mvF i i_1)) none (some (i : Int)) ++ [.int 0] ++ cutV ((List.range n).map fun i_1 => V.int (mvF i i_1)) (some ((i : Int) + 1)) none)) np)))
          obtain ⟨l, xs, y, a1, a2, a3, a4, a5⟩ := fin _ p (front n i) (hb4.near hR y2) (by unfold IntT; rw [upd_same, front_v hi]) (front_perm h5 hi)
          exact ⟨l, xs, y, a1, a2, a3, a4, _, _, _, _, rfl, a5⟩
        · refine ⟨.int way, rfl, rfl, _, rfl, ite2 (fun _ => ?_) (fun _ => ?_)⟩
          · -- the neighbour
            refine ⟨.int i, rfl, _, 1, rfl, rfl, 0, _, rfl, .int n, rfl, n, rfl, .of_le (by omega) (by omega) (by omega) (by omega), fun mo nmo => ?_⟩
            have pr := prv_rng hi
            refine ⟨.int (prv i), rfl, .int i, rfl, by show (2 : Nat) ≤ sizeLine; decide, fun t nt => ⟨t, _, rfl, .inl (.inl upd_same), rfl, ?_⟩⟩
            have motn : mo ≠ t := fun q => by rw [← q, upd_same] at nt; cases nt
            have em : upd (upd H3 mo (.lst (rgV 0 n))) t (.tup [.int (prv i), .int i]) mo = some (.lst (rgV 0 n)) := by rw [upd_ne motn, upd_same]
            have lrg : (rgV 0 n).length = n := by rw [rgV_length]; omega
            have w1 : Ext none H3 (upd (upd H3 mo (.lst (rgV 0 n))) t (.tup [.int (prv i), .int i])) := (Ext.new nmo).trans (.new nt)
            have w2 := w1.set (o' := .lst ((rgV 0 n).set i (.int (prv i)))) nmo em (fun ps z => nomatch z)
            have em2 : upd (upd (upd H3 mo (.lst (rgV 0 n))) t (.tup [.int (prv i), .int i])) mo (.lst ((rgV 0 n).set i (.int (prv i)))) mo = some (.lst ((rgV 0 n).set i (.int (prv i)))) := upd_same
            have w3 := w2.set (o' := .lst (((rgV 0 n).set i (.int (prv i))).set (prv i).toNat (.int i))) nmo em2 (fun ps z => nomatch z)
            refine ⟨_, _, rfl, .ref mo, rfl, .int i, rfl, mo, _, i, i, rfl, rfl, em, ?_, _, _, rfl, .ref mo, rfl, .int (prv i), rfl, mo, _, prv i, (prv i).toNat, rfl, rfl, em2, ?_, rfl, ?_⟩
            · rw [lrg, ixN_ok (by omega) (by omega)]
              simp
            · rw [List.length_set, lrg]
              exact ixN_ok pr.1 pr.2
            · have hb5 := hb.near hR w3
              obtain ⟨bs5, ls5, efo5, _, _, _⟩ := hb5.rows
              refine ⟨.ref fo, rfl, .inl ⟨rfl, _, .inl (.inl efo5)⟩, .ref mo, rfl, .inl ⟨mo, _, rfl, .inl (.inl upd_same), fun p np => ?_⟩⟩
              obtain ⟨l, xs, y, a1, a2, a3, a4, a5⟩ := fin _ p (swp n i) (hb5.near hR (.new (o := .tup (((rgV 0 n).set i (.int (prv i))).set (prv i).toNat (.int i))) np)) (by unfold IntT; rw [upd_same, swp_v]) (swp_perm h5 hi)
              exact ⟨l, xs, y, a1, a2, a3, a4, _, _, _, _, rfl, a5⟩
          · refine ⟨.int way, rfl, rfl, _, rfl, ite2 (fun _ => ?_) (fun _ => ?_)⟩
            · refine ⟨.ref r, rfl, r, 2, z, rfl, by omega, by omega, R3, fun H4 v x4 R4 _ _ => ⟨rfl, _, rfl, ite2 (fun _ => ?_) (fun _ => ?_)⟩⟩
              · have hb4 := hb.more hR x4 R4
                obtain ⟨bs4, ls4, efo4, _, _, _⟩ := hb4.rows
                refine ⟨.ref fo, rfl, .inl ⟨rfl, _, .inl (.inl efo4)⟩, .int n, rfl, n, rfl, .of_le (by omega) (by omega) (by omega) (by omega), fun p np => ?_⟩
                obtain ⟨l, xs, y, a1, a2, a3, a4, a5⟩ := fin _ p (idL n) (hb4.near hR (.new (o := .tup (rgV 0 n)) np)) (by unfold IntT; rw [upd_same, idL_rg]) (idL_perm n)
                exact ⟨l, xs, y, a1, a2, a3, a4, _, _, _, _, rfl, a5⟩
              · have hb4 := hb.more hR x4 R4
                obtain ⟨bs4, ls4, efo4, _, _, _⟩ := hb4.rows
                refine ⟨.ref fo, rfl, .inl ⟨rfl, _, .inl (.inl efo4)⟩, .ref r, rfl, .int n, rfl, r, n, z, rfl, h5, R4, fun H5 p L x5 R5 _ ip pm => ?_⟩
                obtain ⟨l, xs, y, a1, a2, a3, a4, a5⟩ := fin H5 p L (hb4.more hR x5 R5) ip pm
                exact ⟨l, xs, y, a1, a2, a3, a4, _, _, _, _, rfl, a5⟩
            · refine iteF ⟨.ref fo, rfl, .inl ⟨rfl, _, .inl (.inl efo)⟩, .ref r, rfl, .int n, rfl, r, n, z, rfl, h5, R3, fun H5 p L x5 R5 _ ip pm => ?_⟩
              obtain ⟨l, xs, y, a1, a2, a3, a4, a5⟩ := fin H5 p L (hb.more hR x5 R5) ip pm
              exact ⟨l, xs, y, a1, a2, a3, a4, _, _, _, _, rfl, a5⟩
    · rintro σ H3 ⟨z4, z5, z6, z7, rfl, hb⟩
      obtain ⟨bs, ls, efo, tfo, hl, hp⟩ := hb.rows
      exact ⟨.ref fo, rfl, .inl ⟨fo, _, rfl, .inl (.inl efo), fun p np => q _ p ls (hb.ext.trans (.new np)) (hb.row.ext (.new np)) ⟨bs, upd_same, Ext.tups (.new np) tfo⟩ ⟨hl, hp⟩⟩⟩
end
end K01

set_option Elab.async false
set_option linter.all false
set_option maxRecDepth 100000
set_option maxHeartbeats 2000000
namespace K01
open PySem PySem.Spec PyProof.Rows L2 GxR
/-- d[k] = v within a target -/
def rSetD : V → V → V → Hp → (Hp → Prop) → Prop := fun o i v H Q => ∃ a H', o = .ref a ∧ DPut H a i v H' ∧ Q H'
theorem set_dict {X : Cx} (hu : X.A.units + 1 < cLine) : PSet X rSetD := by
  intro pins s σ H o i v ov iv u Q I ro ri rv h
  obtain ⟨a, H', rfl, g, q⟩ := h
  cases ro
  exact d_setItem hu I g ri rv fun s' I' => ⟨H', I', q⟩
/-! ### layouts and their distances -/
def dist (F : PW Lay) : List (List Key × V) := F.map fun t => (kL t.1, V.int (t.2.length : Nat))
theorem dist_keys (F : PW Lay) : (dist F).map (·.1) = (F.map (·.1)).map kL := by unfold dist; rw [List.map_map, List.map_map]; rfl
theorem dist_val : ∀ {F : PW Lay} {x : Lay × List Int}, (F.map (·.1)).Nodup → x ∈ F → valV (dist F) (kL x.1) = some (.int (x.2.length : Nat))
  | [], _, _, hx => by cases hx
  | t :: F, x, nd, hx => by
    rw [List.map_cons, List.nodup_cons] at nd
    rcases List.mem_cons.mp hx with e | hx
    · rw [e]
      exact valV_pos (p := (kL t.1, V.int (t.2.length : Nat))) rfl
    · refine (valV_neg (p := (kL t.1, V.int (t.2.length : Nat))) (r := dist F) (fun z => ?_)).trans (dist_val nd.2 hx)
      have z' := kL_inj z
      rw [z'] at nd
      exact nd.1 (List.mem_map.mpr ⟨x, hx, rfl⟩)
structure NrIn (H H' : Hp) (d : Addr) (n : Nat) (F0 cs : PW Lay) : Prop where
  ext : Ext none H H'
  nd : H d = none
  good : Good n (acc F0 cs)
  dict : H' d = some (.dT (dist (acc F0 cs)))
section
variable {P : Program} {w : World} {K : PySem.W.Frag} {mg : Str → Option Value} {base : Heap}
theorem NrIn.more {H H' H'' : Hp} {d : Addr} {n : Nat} {F0 cs : PW Lay} (W : NrIn H H' d n F0 cs) (x : Ext none H' H'') : NrIn H H'' d n F0 cs := ⟨W.ext.trans x, W.nd, W.good, x.dT W.dict⟩
theorem NrIn.old {H H' : Hp} {d : Addr} {n : Nat} {F0 cs : PW Lay} {x : Lay × List Int} (W : NrIn H H' d n F0 cs) (h : x.1 ∈ (acc F0 cs).map (·.1)) : NrIn H H' d n F0 (cs ++ [x]) := by
  refine ⟨W.ext, W.nd, ?_, ?_⟩
  · rw [acc_old h]; exact W.good
  · rw [acc_old h]; exact W.dict
theorem NrIn.add {H H' : Hp} {d : Addr} {n : Nat} {F0 cs : PW Lay} {T : Lay} {wd : List Int} {m : Int} (W : NrIn H H' d n F0 cs) (hn : n ≤ 5) (new : ¬ T ∈ (acc F0 cs).map (·.1)) (hT : IsPerm n T) (hw : ∀ z ∈ wd, 0 ≤ z ∧ z < (n : Int)) (hm : m = (wd.length : Nat)) :
    (dist (acc F0 cs)).length < sizeLine ∧ NrIn H (upd H' d (.dT (putK (dist (acc F0 cs)) (kL T) (.int m)))) d n F0 (cs ++ [(T, wd)]) := by
  have nK := val_none (dist_keys _) new
  have l1 : (dist (acc F0 cs)).length ≤ 3125 := by unfold dist; rw [List.length_map]; exact W.good.len hn
  refine ⟨small_line (by omega), W.ext.set W.nd W.dict (fun ps z => nomatch z), W.nd, ?_, ?_⟩
  · rw [acc_snoc]
    exact W.good.ins hT hw
  · rw [upd_same, putK_new _ nK, acc_new new, hm]
    unfold dist
    rw [List.map_append]
    rfl
structure NrAt (H H' : Hp) (d : Addr) (h : List (List Int)) (L : List Int) (r : Nat) : Prop where
  ext : Ext none H H'
  nd : H d = none
  small : r ≤ 3125
  full : ∀ j < r, (stS h L j).2 ≠ []
  dict : H' d = some (.dT (dist (stS h L r).1))
def spNear : Sp := fun vs H Q _ => ∃ (a l : Addr) (n : Nat) (h : List (List Int)) (L : List Int), vs = [.ref a, .ref l] ∧ HabAt H a h ∧ IsHab n h ∧ IntT H l L ∧ IsPerm n L ∧ n ≤ 5 ∧ ∀ H' d, Ext none H H' → H d = none → H' d = some (.dT (dist (found h L))) → Q (.ref d) H'
abbrev pLT : List Str := ["_law_habit_here", "_law_layout", "_law_place"]
theorem ok_near {f fB : Addr} {fd fdB : FuncData} (F : Fun K "_law_near" "_law_near" sNear f fd) (BB : Fx K mg "_law_touch" sLTouch pLT fB fdB) (GB : FnOk P w K mg base CX0 1 fB fdB pLT spBT) (N : Nm mg) : FnOk P w K mg base CX0 2 f fd ["_law_habit_here", "_law_layout"] spNear := by
  refine F.ok scNear (fun vs H Q E h => ?_) (fun cdv A outer s H vs Q E hr h => ?_)
  · obtain ⟨a, l, n, h, L, rfl, _⟩ := h
    rfl
  · obtain ⟨a, l, n, h, L, rfl, hA, hI, hL, hp, h5, q⟩ := h
    refine ⟨_, pss_cons (ps_asg (pe_tup (pa_cons (pe_disp1 hr.units (pv 1) pe_int) (pa_cons pe_int (pa_cons (pe_bl) pa_nil)))) (pg_tup rfl (pgs_cons (pg_name (i := 2) scNear.nd rfl (.inr rfl)) (pgs_cons (pg_name (i := 3) scNear.nd rfl (.inr rfl)) (pgs_cons (pg_name (i := 4) scNear.nd rfl (.inl rfl)) pgs_nil)))))
      (pss_cons (ps_while PassesOwn.never (pt_val (pv 4)) (pss_cons (ps_set (i := 4) scNear.nd rfl (.inl rfl) (pe_bl))
        (pss_cons (ps_for PassesOwn.never rfl (pi_list (pe_lc (own := [("_law_one", 5)]) (g := gName 5) rfl scNear.nd (pi_list (pe_callTy (call_list_dT rfl) (by rfl) N.list boot_list' (pa_cons (pv 2) pa_nil))) (blkOk_by (N := nNear) (sc := defScope sNear) (by decide +kernel))
              (fun _ _ _ _ _ => pg_name (i := 5) scNear.nd rfl (Or.inl rfl)) (fun _ _ _ _ _ => pts_one (pt_cmpR op_eq (pe_dget (hu_of hr) (pv 2) (pv 5) (fun _ _ => rfl)) (pv 3) (nomark _))) (fun _ _ _ _ _ => pv 5)))
            (pg_name (i := 5) scNear.nd rfl (.inl rfl)) (pss_one (ps_for PassesOwn.never rfl (pi_range1 (by rfl) N.range (pa_cons (pe_callB call_len_seq (by rfl) N.len PySem.boot_len (pa_cons (pv 0) pa_nil)) pa_nil)) (pg_name (i := 6) scNear.nd rfl (.inl rfl))
          (pss_cons (ps_set (i := 7) scNear.nd rfl (.inl rfl) (fcall BB GB hr (by rfl) (pa_cons (pv 0) (pa_cons (pv 5) (pa_cons (pv 6) pa_nil)))))
          (pss_one (ps_if (pt_cmp (pc_dnotin (hu_of hr) (pv 7) (pv 2))) (pss_one (ps_asg (pe_tup (pa_cons (pe_op op_add (pv 3) pe_int) (pa_cons (pe_bl) pa_nil))) (pg_tup rfl (pgs_cons (pg_sub (pv 2) (pv 7) (set_dict (hu_of hr))) (pgs_cons (pg_name (i := 4) scNear.nd rfl (.inl rfl)) pgs_nil))))) pss_nil))))))
        (pss_one (ps_set (i := 3) scNear.nd rfl (.inr rfl) (pe_op op_add (pv 3) pe_int))))))
      (pss_one (ps_ret (pv 2)))), ?_⟩
    obtain ⟨xs, eA, hlen⟩ := hA.len hI
    subst hlen
    have hk : h.length = xs.length := hI.len
    refine fun d nd => ⟨.ref l, rfl, l, L, rfl, intT_new hL nd, upd_same, by show (3 : Nat) ≤ sizeLine; decide, fun t nt => ⟨t, _, rfl, .inl (.inl upd_same), rfl, _, _, rfl, _, _, rfl, _, _, rfl, rfl, ?_⟩⟩
    have hx1 : Ext none H (upd (upd H d (.dT [])) d (.dT [(L.map Sum.inl, V.int 0)])) := (Ext.new nd).set nd upd_same (fun ps z => nomatch z)
    have start : NrAt H (upd (upd (upd H d (.dT [])) d (.dT [(L.map Sum.inl, V.int 0)])) t (.tup [.ref d, .int 0, .bl true])) d h L 0 := by
      refine ⟨hx1.trans (.new nt), nd, Nat.zero_le _, fun j hj => absurd hj (Nat.not_lt_zero j), ?_⟩
      rw [upd_ne (fun z => by rw [← z, upd_same] at nt; cases nt), upd_same]
      rfl
    refine ⟨fun m σ H' => ∃ (r : Nat) (d : Addr) (g : Bool) (z5 z6 z7 : Option V), σ = [some (.ref a), some (.ref l), some (.ref d), some (.int r), some (.bl g), z5, z6, z7] ∧ m = 3127 - r ∧ NrAt H H' d h L r ∧ g = !((stS h L r).2).isEmpty, ⟨3127, 0, d, true, none, none, none, rfl, rfl, start, rfl⟩, ?_⟩
    rintro m σ H1 ⟨r, d, g, z5, z6, z7, rfl, rfl, W, hg⟩
    refine ⟨.bl g, rfl, g, rfl, ?_⟩
    by_cases hemp : (stS h L r).2 = []
    · rw [hemp] at hg
      have hg' : g = false := hg
      rw [hg']
      have ed := W.dict
      rw [found_of hI h5 hp W.full hemp] at ed
      exact iteF ⟨.ref d, rfl, q H1 d W.ext W.nd ed⟩
    · have hg' : g = true := by
        rw [hg]
        cases e : (stS h L r).2 with
        | nil => exact absurd e hemp
        | cons x y => rfl
      rw [hg']
      have hr1 : r + 1 ≤ 3125 := stS_rounds hI h5 hp fun j hj => by
        rcases Nat.lt_or_eq_of_le hj with z | z
        · exact W.full j z
        · rw [z]; exact hemp
      have wlen : ∀ t ∈ (stS h L r).2, t.2.length = r := fun t ht => st_word r t ht
      have G0 := stS_good hI hp r
      obtain ⟨hE, hE2⟩ := st_round (h := h) (L := L) r
      have sub := st_lay_sub (f := touch h) (k := h.length) (L := L) r
      have last := st_last (f := touch h) (k := h.length) (L := L) r
      have ed0 := W.dict
      generalize hF0 : (stS h L r).1 = F0 at *
      generalize hE0 : (stS h L r).2 = E0 at *
      have nr := W.nd
      have hF5 := G0.len h5
      -- list(found)
      refine iteT ⟨_, fun σ' H' h' => h', .ref d, rfl, d, dist F0, rfl, .inl ed0, fun p bs np kb => ?_⟩
      have tb0 : TupsAt H1 bs (F0.map (·.1)) := by
        have e1 : dist F0 = (F0.map fun t => (t.1, V.int (t.2.length : Nat))).map fun t => (t.1.map Sum.inl, t.2) := by unfold dist; rw [List.map_map]; rfl
        rw [e1] at kb
        have e2 := tups_keys kb
        rw [List.map_map] at e2
        exact e2
      have xp : Ext none H1 (upd H1 p (.lst (bs.map V.ref))) := .new np
      have ep : upd H1 p (.lst (bs.map V.ref)) p = some (.lst (bs.map V.ref)) := upd_same
      have edp := xp.dT ed0
      have tbp := xp.tups tb0
      have Wp := W.ext.trans xp
      generalize upd H1 p (.lst (bs.map V.ref)) = H2 at *
      have hbl : bs.length = F0.length := by rw [tbp.length, List.length_map]
      refine ⟨p, rfl, ⟨_, .inl (.inl ep)⟩, fun D nD => ?_⟩
      refine lc_list (K := K) (a := p) (xs := bs.map V.ref) (g := gName 5) (tt := tTest (tOp rEq (tDGet (tVar 2) (tVar 5)) (tVar 3))) (te := tVar 5) (vs := [5]) (σ := [some (.ref a), some (.ref l), some (.ref d), some (.int r), some (.bl false), z5, z6, z7])
        (fun i H3 => Ext none H2 H3 ∧ ∃ cs : List Addr, H3 D = some (.lst (cs.map V.ref)) ∧ TupsAt H3 cs (((F0.take i).filter fun t => decide (t.2.length = r)).map (·.1))) ⟨.new nD, [], upd_same, .nil⟩ (fun i H3 _ x => .inl (.inl (x.1.lst ep))) ?_ ?_
      · rintro i x H3 hx ⟨x3, cs, eD, tc⟩
        rw [List.getElem?_map] at hx
        obtain ⟨b, eb, rfl⟩ := Option.map_eq_some_iff.mp hx
        obtain ⟨T0, eT0, ib⟩ := paired_get (x3.tups tbp) eb
        rw [List.getElem?_map] at eT0
        obtain ⟨t, et, rfl⟩ := Option.map_eq_some_iff.mp eT0
        have tF := List.mem_of_getElem? et
        have hcl : cs.length ≤ 3125 := by
          rw [tc.length, List.length_map]
          refine Nat.le_trans (List.length_filter_le _ _) ?_
          rw [List.length_take]
          omega
        have nxt : (F0.take (i + 1)).filter (fun t => decide (t.2.length = r)) = (F0.take i).filter (fun t => decide (t.2.length = r)) ++ (if t.2.length = r then [t] else []) := by
          rw [List.take_add_one, et, List.filter_append]
          show _ ++ List.filter _ [t] = _
          by_cases e : t.2.length = r <;> simp [e]
        refine ⟨rfl, .ref d, rfl, .ref b, rfl, d, .int (t.2.length : Nat), rfl, ?_, .int r, rfl, rfl, _, rfl, ite2 (fun e => ?_) (fun e => ?_)⟩
        · rw [← dist_val G0.nd tF]
          exact dget_int (x3.dT edp) ib
        · have e' : t.2.length = r := by have := V.int.inj (of_decide_eq_true e); omega
          refine ⟨.ref b, rfl, _, eD, small_line (by rw [List.length_map]; omega), x3.set nD eD (fun ps z => nomatch z), cs ++ [b], ?_, ?_⟩
          · rw [upd_same, List.map_append]
            rfl
          · rw [nxt, if_pos e', List.map_append]
            exact Paired.snoc (tups_set tc eD (fun xs z => nomatch z)) (intT_set (l := t.1) ib eD (fun xs z => nomatch z))
        · have e' : ¬ t.2.length = r := fun z => e (decide_eq_true (by rw [z]))
          exact ⟨x3, cs, eD, by rw [nxt, if_neg e', List.append_nil]; exact tc⟩
      · rintro H3 ⟨x3, cs, eD, tc⟩
        have e1 : F0.take (bs.map V.ref).length = F0 := List.take_of_length_le (by rw [List.length_map, hbl]; exact Nat.le_refl _)
        rw [e1, last] at tc
        have hcl : cs.length = E0.length := by rw [tc.length, List.length_map]
        have in0 : NrIn H H3 d xs.length F0 [] := ⟨Wp.trans x3, nr, G0, x3.dT edp⟩
        -- for one in ..
        refine ⟨D, rfl, ⟨_, .inl (.inl eD)⟩, for_list (K := K) (a := D) (xs := cs.map V.ref) (fun i σ' H4 => ∃ z5 z6 z7, σ' = [some (.ref a), some (.ref l), some (.ref d), some (.int r), some (.bl (!(fresh (F0.map (·.1)) (cands (touch h) h.length (E0.take i))).isEmpty)), z5, z6, z7] ∧
          NrIn H H4 d xs.length F0 (cands (touch h) h.length (E0.take i)) ∧ H4 D = some (.lst (cs.map V.ref)) ∧ TupsAt H4 cs (E0.map (·.1))) ⟨z5, z6, z7, rfl, in0, eD, tc⟩ (fun i σ' H4 _ ⟨_, _, _, _, _, e, _⟩ => .inl (.inl e)) ?_ ?_⟩
        · rintro i x σ4 H4 hx ⟨z5, z6, z7, rfl, W4, eD4, tc4⟩
          rw [List.getElem?_map] at hx
          obtain ⟨b, eb, rfl⟩ := Option.map_eq_some_iff.mp hx
          obtain ⟨T0, eT0, ib⟩ := paired_get tc4 eb
          rw [List.getElem?_map] at eT0
          obtain ⟨t, et, rfl⟩ := Option.map_eq_some_iff.mp eT0
          have tE := List.mem_of_getElem? et
          have tF := sub t tE
          have tok := G0.ok t tF
          have twl := wlen t tE
          refine ⟨.ref a, rfl, a, xs, rfl, .inr (.inl (.inl (W4.ext.tup eA))), _, rfl, by have := hI.len; omega, by have := hI.len; omega, for_range (lo := 0) (n := xs.length) (fun j σ' H5 => ∃ z6 z7, σ' = [some (.ref a), some (.ref l), some (.ref d), some (.int r), some (.bl (!(fresh (F0.map (·.1)) (cut (touch h) h.length E0 i j t)).isEmpty)), some (.ref b), z6, z7] ∧
            NrIn H H5 d xs.length F0 (cut (touch h) h.length E0 i j t) ∧ H5 D = some (.lst (cs.map V.ref)) ∧ TupsAt H5 cs (E0.map (·.1))) ⟨z6, z7, by rw [cut_zero]; rfl, by rw [cut_zero]; exact W4, eD4, tc4⟩ ?_ ?_⟩
          · rintro j σ5 H5 hj ⟨z6, z7, rfl, W5, eD5, tc5⟩
            rw [Int.zero_add]
            obtain ⟨T1, eT1, ib5⟩ := paired_get tc5 eb
            rw [List.getElem?_map, et] at eT1
            cases eT1
            refine ⟨.ref a, rfl, .ref b, rfl, .int j, rfl, a, b, xs.length, j, h, t.1, rfl, hA.ext W5.ext, hI, ib5, tok.1, h5, hj, fun H6 o x6 ho => ?_⟩
            have W6 := W5.more x6
            have eD6 := x6.lst eD5
            have tc6 := x6.tups tc5
            have vs := val_some (x := touch h t.1 j) (dist_keys (acc F0 (cut (touch h) h.length E0 i j t)))
            refine ⟨.ref o, rfl, .ref d, rfl, d, _, rfl, dget_int W6.dict ho, _, rfl, ?_⟩
            rw [vs]
            by_cases old : touch h t.1 j ∈ (acc F0 (cut (touch h) h.length E0 i j t)).map (·.1)
            · rw [decide_eq_true old]
              refine iteF ⟨some (.int j), some (.ref o), ?_, ?_, eD6, tc6⟩
              · rw [cut_succ (by omega), fresh_old (c := (touch h t.1 j, t.2 ++ [(j : Int)])) old]
                rfl
              · rw [cut_succ (by omega)]
                exact W6.old old
            · rw [decide_eq_false old]
              obtain ⟨cg1, cg2⟩ := cand_good hI hj tok
              refine iteT ⟨.int r, rfl, r, 1, rfl, rfl, by show (2 : Nat) ≤ sizeLine; decide, fun u nu => ⟨u, _, rfl, .inl (.inl upd_same), rfl, _, _, rfl, ?_⟩⟩
              have x7 : Ext none H6 (upd H6 u (.tup [.int ((r : Int) + 1), .bl true])) := .new nu
              have W7 := W6.more x7
              have eD7 := x7.lst eD6
              have tc7 := x7.tups tc6
              obtain ⟨l8, W8⟩ := W7.add (m := (r : Int) + 1) (wd := t.2 ++ [(j : Int)]) h5 old cg1 cg2 (by rw [List.length_append, twl]; rfl)
              have Dd : D ≠ d := fun z => by rw [z, W7.dict] at eD7; cases eD7
              refine ⟨.ref d, rfl, .ref o, rfl, d, _, rfl, dput_int W7.dict (ho.ext x7) l8, _, _, rfl, rfl, some (.int j), some (.ref o), ?_, ?_, ?_, ?_⟩
              · rw [cut_succ (by omega), fresh_new (c := (touch h t.1 j, t.2 ++ [(j : Int)])) old]
                have e9 : (!(fresh (F0.map (·.1)) (cut (touch h) h.length E0 i j t) ++ [(touch h t.1 j, t.2 ++ [(j : Int)])]).isEmpty) = true := by simp
                rw [e9]
                rfl
              · rw [cut_succ (by omega)]
                exact W8
              · rw [upd_ne Dd]
                exact eD7
              · exact tups_set tc7 W7.dict (fun xs z => nomatch z)
          · rintro σ5 H5 ⟨z6, z7, rfl, W5, eD5, tc5⟩
            have e3 := cut_end (f := touch h) (k := h.length) et
            rw [hk] at e3
            rw [hk, e3] at W5
            exact ⟨some (.ref b), z6, z7, by rw [hk, e3], by rw [hk]; exact W5, eD5, tc5⟩
        · rintro σ4 H4 ⟨z5, z6, z7, rfl, W4, eD4, tc4⟩
          have e2 : E0.take (cs.map V.ref).length = E0 := List.take_of_length_le (by rw [List.length_map, hcl]; exact Nat.le_refl _)
          rw [e2] at W4 ⊢
          refine ⟨.int r, rfl, r, 1, rfl, rfl, 3127 - (r + 1), by omega, r + 1, d, _, z5, z6, z7, rfl, rfl, ⟨W4.ext, nr, hr1, fun j hj => ?_, by rw [hE]; exact W4.dict⟩, by rw [hE2]⟩
          rcases Nat.lt_or_eq_of_le (Nat.le_of_lt_succ hj) with z | z
          · exact W.full j z
          · rw [z, hE0]; exact hemp
end
end K01

set_option Elab.async false
set_option linter.all false
set_option maxRecDepth 100000
set_option maxHeartbeats 2000000
namespace K01
open PySem PySem.Spec PyProof.Rows L2 GxR
theorem mem_ex {h : List Lay} {L : Lay} {m : Nat} {t : Lay × List Int} (ht : t ∈ ex (touch h) h.length L (m + 1)) : ∃ s ∈ ex (touch h) h.length L m, ∃ p, p < h.length ∧ t = (touch h s.1 p, s.2 ++ [(p : Int)]) := by
  rw [ex_round, acc_eq] at ht
  have h1 : t ∈ fresh [] (cands (touch h) h.length (ex (touch h) h.length L m)) := by simpa using ht
  exact mem_cands.mp (mem_fresh h1).1
theorem ex_len {h : List Lay} {L : Lay} : ∀ {m : Nat}, ∀ t ∈ ex (touch h) h.length L m, t.2.length = m
  | 0, t, ht => by
    have e : t = (L, []) := by simpa [ex] using ht
    rw [e]
    rfl
  | m + 1, t, ht => by
    obtain ⟨s, hs, p, hp, e⟩ := mem_ex ht
    rw [e]
    show (s.2 ++ [(p : Int)]).length = m + 1
    rw [List.length_append, ex_len s hs]
    rfl
theorem ex_good {n : Nat} {h : List Lay} (H : IsHab n h) {L : Lay} (hL : IsPerm n L) : ∀ m, Good n (ex (touch h) h.length L m)
  | 0 => ⟨ex_nodup 0, fun t ht => by
    have e : t = (L, []) := by simpa [ex] using ht
    rw [e]
    exact ⟨hL, fun z hz => by cases hz⟩⟩
  | m + 1 => ⟨ex_nodup (m + 1), fun t ht => by
    obtain ⟨s, hs, p, hp, e⟩ := mem_ex ht
    rw [e]
    exact cand_good H (by rw [← H.len]; exact hp) ((ex_good H hL m).ok s hs)⟩
/-! ### pairs of a layout and a word -/
def PairAt (H : Hp) (p : Addr) (t : Lay × List Int) : Prop := ∃ b c, H p = some (.tup [.ref b, .ref c]) ∧ IntT H b t.1 ∧ IntT H c t.2
abbrev PairsAt (H : Hp) (ps : List Addr) (F : PW Lay) : Prop := Paired (PairAt H) ps F
theorem PairAt.ext {H H' : Hp} {p : Addr} {t : Lay × List Int} (h : PairAt H p t) (x : Ext none H H') : PairAt H' p t := let ⟨b, c, e, i, j⟩ := h; ⟨b, c, x.tup e, i.ext x, j.ext x⟩
theorem pairs_ext {H H' : Hp} {ps : List Addr} {F : PW Lay} (h : PairsAt H ps F) (x : Ext none H H') : PairsAt H' ps F := Paired.mono (fun _ _ k => k.ext x) h
theorem tup_set {H : Hp} {b p : Addr} {xs : List V} {o o' : HO} (h : H b = some (.tup xs)) (e : H p = some o) (n : ∀ xs, o ≠ .tup xs) : upd H p o' b = some (.tup xs) := by
  rw [upd_ne (fun z => by rw [z, e] at h; exact n _ (Option.some.inj h))]
  exact h
theorem PairAt.set {H : Hp} {p d : Addr} {o o' : HO} {t : Lay × List Int} (h : PairAt H p t) (e : H d = some o) (n : ∀ xs, o ≠ .tup xs) : PairAt (upd H d o') p t := let ⟨b, c, e1, i, j⟩ := h; ⟨b, c, tup_set e1 e n, intT_set i e n, intT_set j e n⟩
theorem pairs_set {H : Hp} {d : Addr} {o o' : HO} {ps : List Addr} {F : PW Lay} (h : PairsAt H ps F) (e : H d = some o) (n : ∀ xs, o ≠ .tup xs) : PairsAt (upd H d o') ps F := Paired.mono (fun _ _ k => k.set e n) h
def seenD (F : PW Lay) : List (List Key × V) := F.map fun t => (kL t.1, V.bl true)
theorem seen_keys (F : PW Lay) : (seenD F).map (·.1) = (F.map (·.1)).map kL := by unfold seenD; rw [List.map_map, List.map_map]; rfl
structure LwIn (H H' : Hp) (sd lg : Addr) (n : Nat) (cs : PW Lay) : Prop where
  ext : Ext none H H'
  nd : H sd = none
  nl : H lg = none
  ne : sd ≠ lg
  good : Good n (acc [] cs)
  dict : H' sd = some (.dT (seenD (acc [] cs)))
  list : ∃ ps : List Addr, H' lg = some (.lst (ps.map V.ref)) ∧ PairsAt H' ps (acc [] cs)
theorem LwIn.more {H H' H'' : Hp} {sd lg : Addr} {n : Nat} {cs : PW Lay} (W : LwIn H H' sd lg n cs) (x : Ext none H' H'') : LwIn H H'' sd lg n cs :=
  let ⟨ps, e, t⟩ := W.list; ⟨W.ext.trans x, W.nd, W.nl, W.ne, W.good, x.dT W.dict, ps, x.lst e, pairs_ext t x⟩
theorem LwIn.old {H H' : Hp} {sd lg : Addr} {n : Nat} {cs : PW Lay} {x : Lay × List Int} (W : LwIn H H' sd lg n cs) (h : x.1 ∈ (acc [] cs).map (·.1)) : LwIn H H' sd lg n (cs ++ [x]) := by
  refine ⟨W.ext, W.nd, W.nl, W.ne, ?_, ?_, ?_⟩
  · rw [acc_old h]; exact W.good
  · rw [acc_old h]; exact W.dict
  · rw [acc_old h]; exact W.list
/-- seen[spot] = True -/
structure LwMid (H H' : Hp) (sd lg : Addr) (n : Nat) (cs : PW Lay) (T : Lay) : Prop where
  ext : Ext none H H'
  nd : H sd = none
  nl : H lg = none
  ne : sd ≠ lg
  good : Good n (acc [] cs)
  dict : H' sd = some (.dT (seenD (acc [] cs) ++ [(kL T, .bl true)]))
  list : ∃ ps : List Addr, H' lg = some (.lst (ps.map V.ref)) ∧ PairsAt H' ps (acc [] cs)
theorem LwMid.more {H H' H'' : Hp} {sd lg : Addr} {n : Nat} {cs : PW Lay} {T : Lay} (W : LwMid H H' sd lg n cs T) (x : Ext none H' H'') : LwMid H H'' sd lg n cs T :=
  let ⟨ps, e, t⟩ := W.list; ⟨W.ext.trans x, W.nd, W.nl, W.ne, W.good, x.dT W.dict, ps, x.lst e, pairs_ext t x⟩
theorem LwIn.put {H H' : Hp} {sd lg : Addr} {n : Nat} {cs : PW Lay} {T : Lay} (W : LwIn H H' sd lg n cs) (hn : n ≤ 5) (new : ¬ T ∈ (acc [] cs).map (·.1)) :
    (seenD (acc [] cs)).length < sizeLine ∧ LwMid H (upd H' sd (.dT (putK (seenD (acc [] cs)) (kL T) (.bl true)))) sd lg n cs T := by
  have nK := val_none (seen_keys _) new
  have l1 : (seenD (acc [] cs)).length ≤ 3125 := by unfold seenD; rw [List.length_map]; exact W.good.len hn
  obtain ⟨ps, e, t⟩ := W.list
  refine ⟨small_line (by omega), W.ext.set W.nd W.dict (fun ps z => nomatch z), W.nd, W.nl, W.ne, W.good, ?_, ps, ?_, pairs_set t W.dict (fun xs z => nomatch z)⟩
  · rw [upd_same, putK_new _ nK]
  · rw [upd_ne (Ne.symm W.ne)]; exact e
theorem LwMid.push {H H' : Hp} {sd lg p : Addr} {n : Nat} {cs : PW Lay} {T : Lay} {wd : List Int} (W : LwMid H H' sd lg n cs T) (hn : n ≤ 5) (new : ¬ T ∈ (acc [] cs).map (·.1)) (hT : IsPerm n T) (hw : ∀ z ∈ wd, 0 ≤ z ∧ z < (n : Int)) (hp : PairAt H' p (T, wd)) :
    ∃ xs, H' lg = some (.lst xs) ∧ xs.length < sizeLine ∧ LwIn H (upd H' lg (.lst (xs ++ [.ref p]))) sd lg n (cs ++ [(T, wd)]) := by
  obtain ⟨ps, e, t⟩ := W.list
  have l1 : ps.length ≤ 3125 := by rw [t.length]; exact W.good.len hn
  refine ⟨_, e, small_line (by rw [List.length_map]; omega), W.ext.set W.nl e (fun ps z => nomatch z), W.nd, W.nl, W.ne, ?_, ?_, ps ++ [p], ?_, ?_⟩
  · rw [acc_snoc]
    exact W.good.ins hT hw
  · rw [upd_ne W.ne, W.dict, acc_new new]
    unfold seenD
    rw [List.map_append]
    rfl
  · rw [upd_same, List.map_append]
    rfl
  · rw [acc_new new]
    exact Paired.snoc (pairs_set t e (fun xs z => nomatch z)) (hp.set e (fun xs z => nomatch z))
section
variable {P : Program} {w : World} {K : PySem.W.Frag} {mg : Str → Option Value} {base : Heap}
def spLeast : Sp := fun vs H Q _ => ∃ (a l o : Addr) (n m : Nat) (h : List (List Int)) (L : List Int) (t : Lay × List Int), vs = [.ref a, .ref l, .ref o, .int m] ∧ HabAt H a h ∧ IsHab n h ∧ IntT H l L ∧ IsPerm n L ∧ n ≤ 5 ∧ IntT H o t.1 ∧ t ∈ ex (touch h) h.length L m ∧ m ≤ 3125 ∧
  ∀ H' b, Ext none H H' → IntT H' b t.2 → Q (.ref b) H'
theorem ok_least {f fB : Addr} {fd fdB : FuncData} (F : Fun K "_law_least_word" "_law_least_word" sLeast f fd) (BB : Fx K mg "_law_touch" sLTouch pLT fB fdB) (GB : FnOk P w K mg base CX0 1 fB fdB pLT spBT) (N : Nm mg) :
    FnOk P w K mg base CX0 2 f fd ["_law_habit_here", "_law_layout", "_law_other", "_law_many"] spLeast := by
  refine F.ok scLeast (fun vs H Q E h => ?_) (fun cdv A outer s H vs Q E hr h => ?_)
  · obtain ⟨a, l, o, n, m, h, L, t, rfl, _⟩ := h
    rfl
  · obtain ⟨a, l, oo, n, m, h, L, tt, rfl, hA, hI, hL, hp, h5, hO, htt, hm, q⟩ := h
    refine ⟨_, pss_cons (ps_set (i := 4) scLeast.nd rfl (.inl rfl) (pe_lst (pa_cons (pe_tup (pa_cons (pv 1) (pa_cons (pe_tup pa_nil) pa_nil))) pa_nil)))
      (pss_cons (ps_for PassesOwn.never rfl (pi_range1 (by rfl) N.range (pa_cons (pv 3) pa_nil)) (pg_name (i := 5) scLeast.nd rfl (.inl rfl))
        (pss_cons (ps_par (i := 6) (j := 7) (by rfl) scLeast.nd rfl rfl (by decide) rfl rfl (pa_cons (pe_lst pa_nil) (pa_cons pe_dnewT pa_nil)) (by rfl))
        (pss_cons (ps_for PassesOwn.never rfl (pi_list (pv 4)) (pg_tup rfl (pgs_cons (pg_name (i := 8) scLeast.nd rfl (.inl rfl)) (pgs_cons (pg_name (i := 9) scLeast.nd rfl (.inl rfl)) pgs_nil)))
          (pss_one (ps_for PassesOwn.never rfl (pi_range1 (by rfl) N.range (pa_cons (pe_callB call_len_seq (by rfl) N.len PySem.boot_len (pa_cons (pv 0) pa_nil)) pa_nil)) (pg_name (i := 10) scLeast.nd rfl (.inl rfl))
            (pss_cons (ps_set (i := 11) scLeast.nd rfl (.inl rfl) (fcall BB GB hr (by rfl) (pa_cons (pv 0) (pa_cons (pv 8) (pa_cons (pv 10) pa_nil)))))
            (pss_one (ps_if (pt_cmp (pc_dnotin (hu_of hr) (pv 11) (pv 7))) (pss_cons (ps_dput (hu_of hr) (pv 7) (pv 11) pe_bl rfl)
              (pss_one (ps_expr (pe_bm PySem.F.plainAttrs_list PySem.F.slot_list_append PySem.F.type_list_append mt_append (pv 6) (pa_cons (pe_tup (pa_cons (pv 11) (pa_cons (pe_op op_catA (pv 9) (pe_tup (pa_cons (pv 10) pa_nil))) pa_nil))) pa_nil))))) pss_nil))))))
        (pss_one (ps_set (i := 4) scLeast.nd rfl (.inl rfl) (pv 6))))))
      (pss_one (ps_ret (pe_ix ix_list (pe_lc (own := [("_law_one", 8), ("_law_word", 9)]) (g := gTup K 2 (gCons (gName 8) (gCons (gName 9) gNil))) rfl scLeast.nd (pi_list (pv 4)) (blkOk_by (N := nLeast) (sc := defScope sLeast) (by decide +kernel))
          (fun _ _ _ _ _ => pg_tup rfl (pgs_cons (pg_name (i := 8) scLeast.nd rfl (Or.inl rfl)) (pgs_cons (pg_name (i := 9) scLeast.nd rfl (Or.inl rfl)) pgs_nil))) (fun _ _ _ _ _ => pts_one (pt_cmpR (r := rEqD K) (op_eqD hr.units) (pv 8) (pv 2) (nomark _))) (fun _ _ _ _ _ => pv 9)) pe_int (fun _ _ => rfl))))), ?_⟩
    obtain ⟨xs, eA, hlen⟩ := hA.len hI
    subst hlen
    have hk : h.length = xs.length := hI.len
    have two : (2 : Nat) ≤ sizeLine := by decide
    refine ⟨.ref l, rfl, Nat.zero_le _, fun e ne => ⟨two, fun u nu => ⟨by show (1 : Nat) ≤ sizeLine; decide, fun y ny => ?_⟩⟩⟩
    have xe : Ext none H (upd H e (.tup [])) := .new ne
    have xu : Ext none _ (upd (upd H e (.tup [])) u (.tup [.ref l, .ref e])) := .new nu
    have xy : Ext none _ (upd (upd (upd H e (.tup [])) u (.tup [.ref l, .ref e])) y (.lst [.ref u])) := .new ny
    have x0 := xe.trans (xu.trans xy)
    have p0 : PairsAt (upd (upd (upd H e (.tup [])) u (.tup [.ref l, .ref e])) y (.lst [.ref u])) [u] [(L, [])] := .cons ⟨l, e, xy.tup upd_same, hL.ext x0, (xu.trans xy).tup upd_same⟩ .nil
    have ey0 : upd (upd (upd H e (.tup [])) u (.tup [.ref l, .ref e])) y (.lst [.ref u]) y = some (.lst ([u].map V.ref)) := upd_same
    generalize upd (upd (upd H e (.tup [])) u (.tup [.ref l, .ref e])) y (.lst [.ref u]) = H0 at *
    refine ⟨.int m, rfl, m, rfl, by omega, by omega, for_range (lo := 0) (n := m) (fun i σ H' => ∃ (y : Addr) (z5 z6 z7 z8 z9 z10 z11 : Option V), σ = [some (.ref a), some (.ref l), some (.ref oo), some (.int m), some (.ref y), z5, z6, z7, z8, z9, z10, z11] ∧ Ext none H H' ∧
      ∃ ps : List Addr, H' y = some (.lst (ps.map V.ref)) ∧ PairsAt H' ps (ex (touch h) h.length L i)) ⟨y, none, none, none, none, none, none, none, rfl, x0, [u], ey0, p0⟩ ?_ ?_⟩
    · rintro r σ H2 hr2 ⟨y, z5, z6, z7, z8, z9, z10, z11, rfl, x2, ps, ey, tp⟩
      have G0 := ex_good hI hp r
      have wlen : ∀ t ∈ ex (touch h) h.length L r, t.2.length = r := ex_len
      have hE := ex_round (h := h) (L := L) r
      generalize hE0 : ex (touch h) h.length L r = E0 at *
      refine ⟨Nat.zero_le _, fun lg nlg => fun sd nsd => ⟨_, _, rfl, ?_⟩⟩
      have xl : Ext none H2 (upd H2 lg (.lst [])) := .new nlg
      have xs' : Ext none _ (upd (upd H2 lg (.lst [])) sd (.dT [])) := .new nsd
      have slne : sd ≠ lg := fun z => by rw [z, upd_same] at nsd; cases nsd
      have nl0 : H lg = none := x2.dom lg nlg
      have ns0 : H sd = none := (x2.trans xl).dom sd nsd
      have ylg : y ≠ lg := ne_of_none ey nlg
      have ysd : y ≠ sd := ne_of_none (xl.lst ey) nsd
      have in0 : LwIn H (upd (upd H2 lg (.lst [])) sd (.dT [])) sd lg xs.length [] := ⟨x2.trans (xl.trans xs'), ns0, nl0, slne, ⟨by simp [acc], fun t ht => by cases ht⟩, upd_same, [], xs'.lst upd_same, .nil⟩
      have ey1 := (xl.trans xs').lst ey
      have tp1 := pairs_ext tp (xl.trans xs')
      generalize upd (upd H2 lg (.lst [])) sd (.dT []) = H3 at *
      have hpl : ps.length = E0.length := tp.length
      refine ⟨.ref y, rfl, y, rfl, ⟨_, .inl (.inl ey1)⟩, for_list (K := K) (a := y) (xs := ps.map V.ref) (fun i σ' H4 => ∃ z8 z9 z10 z11, σ' = [some (.ref a), some (.ref l), some (.ref oo), some (.int m), some (.ref y), some (.int (0 + (r : Int))), some (.ref lg), some (.ref sd), z8, z9, z10, z11] ∧
        LwIn H H4 sd lg xs.length (cands (touch h) h.length (E0.take i)) ∧ H4 y = some (.lst (ps.map V.ref)) ∧ PairsAt H4 ps E0) ⟨z8, z9, z10, z11, rfl, in0, ey1, tp1⟩ (fun i σ' H4 _ ⟨_, _, _, _, _, _, e, _⟩ => .inl (.inl e)) ?_ ?_⟩
      · rintro i x σ4 H4 hx ⟨z8, z9, z10, z11, rfl, W4, ey4, tp4⟩
        rw [List.getElem?_map] at hx
        obtain ⟨pp, epp, rfl⟩ := Option.map_eq_some_iff.mp hx
        obtain ⟨t, et, b, wb, ept, ib, iw⟩ := paired_get tp4 epp
        have tE := List.mem_of_getElem? et
        have tok := G0.ok t tE
        have twl := wlen t tE
        refine ⟨pp, _, rfl, .inl (.inl ept), rfl, _, _, rfl, _, _, rfl, rfl, ?_⟩
        refine ⟨.ref a, rfl, a, xs, rfl, .inr (.inl (.inl (W4.ext.tup eA))), _, rfl, by have := hI.len; omega, by have := hI.len; omega, for_range (lo := 0) (n := xs.length) (fun j σ' H5 => ∃ z10 z11, σ' = [some (.ref a), some (.ref l), some (.ref oo), some (.int m), some (.ref y), some (.int (0 + (r : Int))), some (.ref lg), some (.ref sd), some (.ref b), some (.ref wb), z10, z11] ∧
          LwIn H H5 sd lg xs.length (cut (touch h) h.length E0 i j t) ∧ H5 y = some (.lst (ps.map V.ref)) ∧ PairsAt H5 ps E0 ∧ IntT H5 b t.1 ∧ IntT H5 wb t.2) ⟨z10, z11, rfl, by rw [cut_zero]; exact W4, ey4, tp4, ib, iw⟩ ?_ ?_⟩
        · rintro j σ5 H5 hj ⟨z10, z11, rfl, W5, ey5, tp5, ib5, iw5⟩
          rw [Int.zero_add (j : Int)]
          refine ⟨.ref a, rfl, .ref b, rfl, .int j, rfl, a, b, xs.length, j, h, t.1, rfl, hA.ext W5.ext, hI, ib5, tok.1, h5, hj, fun H6 o x6 ho => ?_⟩
          have W6 := W5.more x6
          have ey6 := x6.lst ey5
          have tp6 := pairs_ext tp5 x6
          have vs := val_some (x := touch h t.1 j) (seen_keys (acc [] (cut (touch h) h.length E0 i j t)))
          refine ⟨.ref o, rfl, .ref sd, rfl, sd, _, rfl, dget_int W6.dict ho, _, rfl, ?_⟩
          rw [vs]
          by_cases old : touch h t.1 j ∈ (acc [] (cut (touch h) h.length E0 i j t)).map (·.1)
          · rw [decide_eq_true old]
            refine iteF ⟨some (.int j), some (.ref o), rfl, ?_, ey6, tp6, IntT.ext ib5 x6, IntT.ext iw5 x6⟩
            rw [cut_succ (by omega)]
            exact W6.old old
          · rw [decide_eq_false old]
            obtain ⟨cg1, cg2⟩ := cand_good hI hj tok
            obtain ⟨l7, W7⟩ := W6.put h5 old
            have ib6 := IntT.ext ib5 x6
            have iw6 := IntT.ext iw5 x6
            refine iteT ⟨.ref sd, rfl, .ref o, rfl, sd, _, rfl, dput_int W6.dict ho l7, ?_⟩
            have ho7 : IntT (upd H6 sd (.dT (putK (seenD (acc [] (cut (touch h) h.length E0 i j t))) (kL (touch h t.1 j)) (.bl true)))) o (touch h t.1 j) := intT_set ho W6.dict (fun xs z => nomatch z)
            have ib7 : IntT (upd H6 sd (.dT (putK (seenD (acc [] (cut (touch h) h.length E0 i j t))) (kL (touch h t.1 j)) (.bl true)))) b t.1 := intT_set ib6 W6.dict (fun xs z => nomatch z)
            have iw7 : IntT (upd H6 sd (.dT (putK (seenD (acc [] (cut (touch h) h.length E0 i j t))) (kL (touch h t.1 j)) (.bl true)))) wb t.2 := intT_set iw6 W6.dict (fun xs z => nomatch z)
            have ey7 : upd H6 sd (.dT (putK (seenD (acc [] (cut (touch h) h.length E0 i j t))) (kL (touch h t.1 j)) (.bl true))) y = some (.lst (ps.map V.ref)) := by rw [upd_ne ysd]; exact ey6
            have tp7 : PairsAt (upd H6 sd (.dT (putK (seenD (acc [] (cut (touch h) h.length E0 i j t))) (kL (touch h t.1 j)) (.bl true)))) ps E0 := pairs_set tp6 W6.dict (fun xs z => nomatch z)
            generalize upd H6 sd (.dT (putK (seenD (acc [] (cut (touch h) h.length E0 i j t))) (kL (touch h t.1 j)) (.bl true))) = H7 at *
            have fin : ∀ H8 v, Ext none H7 H8 → IntT H8 v (t.2 ++ [(j : Int)]) → ∀ pp, H8 pp = none → ∃ lg' xs1 y1, V.ref lg = .ref lg' ∧ [V.ref pp] = [y1] ∧ upd H8 pp (.tup [.ref o, .ref v]) lg' = some (.lst xs1) ∧ xs1.length < sizeLine ∧
                LwIn H (upd (upd H8 pp (.tup [.ref o, .ref v])) lg' (.lst (xs1 ++ [y1]))) sd lg xs.length (cut (touch h) h.length E0 i (j + 1) t) ∧ upd (upd H8 pp (.tup [.ref o, .ref v])) lg' (.lst (xs1 ++ [y1])) y = some (.lst (ps.map V.ref)) ∧
                PairsAt (upd (upd H8 pp (.tup [.ref o, .ref v])) lg' (.lst (xs1 ++ [y1]))) ps E0 ∧ IntT (upd (upd H8 pp (.tup [.ref o, .ref v])) lg' (.lst (xs1 ++ [y1]))) b t.1 ∧ IntT (upd (upd H8 pp (.tup [.ref o, .ref v])) lg' (.lst (xs1 ++ [y1]))) wb t.2 := by
              intro H8 v x8 hv pp npp
              have x9 : Ext none H8 (upd H8 pp (.tup [.ref o, .ref v])) := .new npp
              have y9 := x8.trans x9
              obtain ⟨xs1, e9, l9, W9⟩ := (W7.more y9).push (p := pp) (wd := t.2 ++ [(j : Int)]) h5 old cg1 cg2 ⟨o, v, upd_same, ho7.ext y9, hv.ext x9⟩
              refine ⟨lg, xs1, .ref pp, rfl, rfl, e9, l9, ?_, ?_, pairs_set (pairs_ext tp7 y9) e9 (fun xs z => nomatch z), intT_set (ib7.ext y9) e9 (fun xs z => nomatch z), intT_set (iw7.ext y9) e9 (fun xs z => nomatch z)⟩
              · rw [cut_succ (by omega)]
                exact W9
              · rw [upd_ne ylg]
                exact y9.lst ey7
            obtain ⟨ls, elg, _⟩ := W7.list
            refine ⟨.ref lg, rfl, .inl ⟨rfl, _, .inl (.inl elg)⟩, .ref o, rfl, .ref wb, rfl, .int j, rfl, by show (1 : Nat) ≤ sizeLine; decide, fun p1 np1 => ?_⟩
            have x8 : Ext none H7 (upd H7 p1 (.tup [.int (j : Int)])) := .new np1
            refine ⟨wb, p1, t.2.map V.int, [.int (j : Int)], rfl, rfl, (iw7.ext x8).sq, .inl (.inl upd_same), ?_, fun e0 => ⟨two, fun pp npp => ?_⟩, fun _ e1 => absurd e1 (List.cons_ne_nil _ _), fun _ _ p2 np2 => ⟨two, fun pp npp => ?_⟩⟩
            · rw [List.length_map]
              have : (sizeLine : Nat) ≥ 4000 := by decide
              show t.2.length + 1 ≤ sizeLine
              omega
            · have e2 : t.2 = [] := List.map_eq_nil_iff.mp e0
              obtain ⟨lg', xs1, y1, a1, a2, a3, a4, a5, a6, a7, a8, a9⟩ := fin _ p1 x8 (by rw [e2]; exact upd_same) pp npp
              exact ⟨lg', xs1, y1, a1, a2, a3, a4, some (.int j), some (.ref o), rfl, a5, a6, a7, a8, a9⟩
            · have x9 := x8.trans (Ext.new (o := .tup (t.2.map V.int ++ [.int (j : Int)])) np2)
              obtain ⟨lg', xs1, y1, a1, a2, a3, a4, a5, a6, a7, a8, a9⟩ := fin _ p2 x9 (by unfold IntT; rw [upd_same, List.map_append]; rfl) pp npp
              exact ⟨lg', xs1, y1, a1, a2, a3, a4, some (.int j), some (.ref o), rfl, a5, a6, a7, a8, a9⟩
        · rintro σ5 H5 ⟨z10, z11, rfl, W5, ey5, tp5, _, _⟩
          have e3 := cut_end (f := touch h) (k := h.length) et
          rw [hk] at e3
          rw [hk, e3] at W5
          exact ⟨_, _, _, _, rfl, by rw [hk]; exact W5, ey5, tp5⟩
      · rintro σ4 H4 ⟨z8, z9, z10, z11, rfl, W4, ey4, tp4⟩
        have e2 : E0.take (ps.map V.ref).length = E0 := List.take_of_length_le (by rw [List.length_map, hpl]; exact Nat.le_refl _)
        rw [e2] at W4
        obtain ⟨ps2, elg, tp2⟩ := W4.list
        exact ⟨.ref lg, rfl, lg, _, _, _, _, _, _, _, rfl, W4.ext, ps2, elg, by rw [hE]; exact tp2⟩
    · rintro σ H2 ⟨y, z5, z6, z7, z8, z9, z10, z11, rfl, x2, ps, ey, tp⟩
      have G0 := ex_good hI hp m
      have only := ex_only htt
      generalize ex (touch h) h.length L m = E0 at *
      have hsz := G0.len h5
      have hpl : ps.length = E0.length := tp.length
      refine ⟨.ref y, rfl, y, rfl, ⟨_, .inl (.inl ey)⟩, fun D nD => ?_⟩
      refine lc_list (K := K) (a := y) (xs := ps.map V.ref) (g := gTup K 2 (gCons (gName 8) (gCons (gName 9) gNil))) (tt := tTest (tOp (rEqD K) (tVar 8) (tVar 2))) (te := tVar 9) (vs := [8, 9]) (σ := [some (.ref a), some (.ref l), some (.ref oo), some (.int m), some (.ref y), z5, z6, z7, z8, z9, z10, z11])
        (Qd := fun H' => rIxL K (.ref D) (.int 0) H' Q) (fun i H3 => Ext none H2 H3 ∧ ∃ cs : List Addr, H3 D = some (.lst (cs.map V.ref)) ∧ TupsAt H3 cs (((E0.take i).filter fun s => decide (s.1 = tt.1)).map (·.2))) ⟨.new nD, [], upd_same, .nil⟩ (fun i H3 _ x => .inl (.inl (x.1.lst ey))) ?_ ?_
      · rintro i x H3 hx ⟨x3, cs, eD, tc⟩
        rw [List.getElem?_map] at hx
        obtain ⟨pp, epp, rfl⟩ := Option.map_eq_some_iff.mp hx
        obtain ⟨t, et, b, wb, ept, ib, iw⟩ := paired_get (pairs_ext tp x3) epp
        have hcl : cs.length ≤ 3125 := by
          rw [tc.length, List.length_map]
          refine Nat.le_trans (List.length_filter_le _ _) ?_
          rw [List.length_take]
          omega
        have nxt : (E0.take (i + 1)).filter (fun s => decide (s.1 = tt.1)) = (E0.take i).filter (fun s => decide (s.1 = tt.1)) ++ (if t.1 = tt.1 then [t] else []) := by
          rw [List.take_add_one, et, List.filter_append]
          show _ ++ List.filter _ [t] = _
          by_cases e : t.1 = tt.1 <;> simp [e]
        refine ⟨pp, _, rfl, .inl (.inl ept), rfl, _, _, rfl, _, _, rfl, rfl, rfl, .ref b, rfl, .ref oo, rfl, _, _, ib.dp, ((hO.ext x2).ext x3).dp, shaped_tup _, shaped_tup _, _, rfl, ?_⟩
        rw [eqv_tup]
        refine ite2 (fun e => ?_) (fun e => ?_)
        · have e' : t.1 = tt.1 := of_decide_eq_true e
          refine ⟨.ref wb, rfl, _, eD, small_line (by rw [List.length_map]; omega), x3.set nD eD (fun ps z => nomatch z), cs ++ [wb], ?_, ?_⟩
          · rw [upd_same, List.map_append]
            rfl
          · rw [nxt, if_pos e', List.map_append]
            exact Paired.snoc (tups_set tc eD (fun xs z => nomatch z)) (intT_set (l := t.2) iw eD (fun xs z => nomatch z))
        · have e' : ¬ t.1 = tt.1 := fun z => e (decide_eq_true z)
          exact ⟨x3, cs, eD, by rw [nxt, if_neg e', List.append_nil]; exact tc⟩
      · rintro H3 ⟨x3, cs, eD, tc⟩
        have e1 : E0.take (ps.map V.ref).length = E0 := List.take_of_length_le (by rw [List.length_map, hpl]; exact Nat.le_refl _)
        rw [e1, only] at tc
        cases tc with
        | cons h1 h2 =>
          cases h2
          exact ⟨D, _, 0, _, rfl, rfl, .inl (.inl eD), rfl, q H3 _ (x2.trans x3) h1⟩
end
end K01

set_option Elab.async false
set_option linter.all false
set_option maxRecDepth 100000
set_option maxHeartbeats 2000000
namespace K01
open PySem PySem.Spec PyProof.Rows L2 GxR
def rIxA (K : PySem.W.Frag) : R2 := fun x y H Q => rIxL K x y H Q ∨ rIxT K x y H Q
theorem ix_any {X : Cx} : IxR X (rIxA X.K) := by
  intro value slice pins s σ H x y v u Q I rx ry h hs
  rcases h with h | h
  · exact ix_list value slice pins s σ H x y v u Q I rx ry h hs
  · exact ix_tup value slice pins s σ H x y v u Q I rx ry h hs
/-- alike: the same int, both None, or lists (tuples) of things that are alike -/
def Flat (x : V) : Prop := x = .non ∨ ∃ i, x = .int i
def Seqs (H : Hp) (x y : V) (xs ys : List V) : Prop := ∃ a b, x = .ref a ∧ y = .ref b ∧ ((H a = some (.tup xs) ∧ H b = some (.tup ys)) ∨ (H a = some (.lst xs) ∧ H b = some (.lst ys)))
def Alike : Nat → Hp → V → V → Prop
  | 0, _, x, y => x = y ∧ Flat x
  | n + 1, H, x, y => (x = y ∧ Flat x) ∨ ∃ xs ys, Seqs H x y xs ys ∧ Paired (Alike n H) xs ys ∧ xs.length ≤ 3125
theorem Seqs.ext {H H' : Hp} {x y : V} {xs ys : List V} (h : Seqs H x y xs ys) (e : Ext none H H') : Seqs H' x y xs ys := by
  obtain ⟨a, b, rfl, rfl, h⟩ := h
  rcases h with ⟨h1, h2⟩ | ⟨h1, h2⟩
  · exact ⟨a, b, rfl, rfl, .inl ⟨e.tup h1, e.tup h2⟩⟩
  · exact ⟨a, b, rfl, rfl, .inr ⟨e.lst h1, e.lst h2⟩⟩
theorem Alike.ext {H H' : Hp} (e : Ext none H H') : ∀ {n : Nat} {x y : V}, Alike n H x y → Alike n H' x y
  | 0, _, _, h => h
  | n + 1, _, _, h => by
    rcases h with h | ⟨xs, ys, h, p, l⟩
    · exact .inl h
    · exact .inr ⟨xs, ys, h.ext e, Paired.mono (fun _ _ q => Alike.ext e q) p, l⟩
section
variable {P : Program} {w : World} {K : PySem.W.Frag} {mg : Str → Option Value} {base : Heap}
abbrev pAL : List Str := ["_law_found", "_law_due"]
def spAlike (n : Nat) : Sp := fun vs H Q _ => ∃ x y, vs = [x, y] ∧ Alike n H x y ∧ ∀ H', Ext none H H' → Q (.bl true) H'
theorem flat_body {k : Nat} {f : Addr} {cdv : Value} {A : Around} {outer : List Env} {s : Shared} {H : Hp} {Q : VK} {E : XK} {x : V} (N : Nm mg) (hx : Flat x) (q : ∀ H', Ext none H H' → Q (.bl true) H') :
    ∃ t, PSs (cxOf CX0 P w K mg base nAlike "_law_alike" (defScope sAlike) f cdv A outer s H E).nox (defBody sAlike) t ∧ t { nx := fun _ H' => Q .non H', rt := Q } (start nAlike [x, x]) H := by
  refine ⟨_, pss_cons (ps_if (pt_val (pe_callB call_isiT (by rfl) N.isinstance boot_isinstance (pa_cons (pv 1) (pa_cons (pe_tup (pa_cons (pe_bltn (v := .ty "tuple") (by rfl) N.tuple boot_tuple' rfl) (pa_cons (pe_bltn (v := .ty "list") (by rfl) N.list boot_list' rfl) pa_nil))) pa_nil)))) pss_never pss_nil)
    (pss_cons (ps_if (PW.pt (pw_or (pt_cmp (pc_isN (pv 1))) (pw_or1 (pt_val (pe_callB call_isi (by rfl) N.isinstance boot_isinstance (pa_cons (pv 1) (pa_cons (pe_bltn (v := .ty "str") (by rfl) N.str boot_str' rfl) pa_nil)))))))
      (pss_one (ps_ret (pe_and (pe_cmpR op_eq (pv 0) (pv 1) (nomark _)) (pe_one (pe_cmpR op_eq (pe_callB call_isi (by rfl) N.isinstance boot_isinstance (pa_cons (pv 0) (pa_cons (pe_bltn (v := .ty "str") (by rfl) N.str boot_str' rfl) pa_nil))) (pe_callB call_isi (by rfl) N.isinstance boot_isinstance (pa_cons (pv 1) (pa_cons (pe_bltn (v := .ty "str") (by rfl) N.str boot_str' rfl) pa_nil))) (nomark _)))))) pss_nil)
    (pss_one (ps_ret (pe_and (pe_callB call_isi (by rfl) N.isinstance boot_isinstance (pa_cons (pv 0) (pa_cons (pe_bltn (v := .ty "int") (by rfl) N.int boot_int' rfl) pa_nil)))
      (pe_and (pe_cmpR op_eq (pe_callB call_isi (by rfl) N.isinstance boot_isinstance (pa_cons (pv 0) (pa_cons (pe_bltn (v := .ty "bool") (by rfl) N.bool boot_bool' rfl) pa_nil))) (pe_callB call_isi (by rfl) N.isinstance boot_isinstance (pa_cons (pv 1) (pa_cons (pe_bltn (v := .ty "bool") (by rfl) N.bool boot_bool' rfl) pa_nil))) (nomark _))
      (pe_one (pe_cmpR op_eq (pv 0) (pv 1) (nomark _)))))))), ?_⟩
  rcases hx with rfl | ⟨i, rfl⟩
  · refine ⟨.non, rfl, by show (2 : Nat) ≤ sizeLine; decide, fun tp ntp => ?_⟩
    refine ⟨.non, tp, _, .type "NoneType", [.type "tuple", .type "list"], false, rfl, upd_same, .cons (.ty _) (.cons (.ty _) .nil), .base .non, rfl, false, rfl, iteF ?_⟩
    refine ⟨.non, rfl, true, rfl, iteT ?_⟩
    refine ⟨.non, rfl, .non, rfl, rfl, true, rfl, iteT ?_⟩
    exact ⟨.non, rfl, _, _, .type "NoneType", .type "str", false, rfl, .ty _, .base .non, rfl, .non, rfl, _, _, .type "NoneType", .type "str", false, rfl, .ty _, .base .non, rfl, rfl, q _ (.new ntp)⟩
  · refine ⟨.int i, rfl, by show (2 : Nat) ≤ sizeLine; decide, fun tp ntp => ?_⟩
    refine ⟨.int i, tp, _, .type "int", [.type "tuple", .type "list"], false, rfl, upd_same, .cons (.ty _) (.cons (.ty _) .nil), .base (.int _), rfl, false, rfl, iteF ?_⟩
    refine ⟨.int i, rfl, false, rfl, iteF ?_⟩
    refine ⟨.int i, rfl, _, _, .type "int", .type "str", false, rfl, .ty _, .base (.int _), rfl, false, rfl, iteF ?_⟩
    refine ⟨.int i, rfl, _, _, .type "int", .type "int", true, rfl, .ty _, .base (.int _), rfl, true, rfl, iteT ?_⟩
    refine ⟨.int i, rfl, _, _, .type "int", .type "bool", false, rfl, .ty _, .base (.int _), rfl, .int i, rfl, _, _, .type "int", .type "bool", false, rfl, .ty _, .base (.int _), rfl, rfl, true, rfl, iteT ?_⟩
    refine ⟨.int i, rfl, .int i, rfl, rfl, ?_⟩
    rw [decide_eq_true rfl]
    exact q _ (.new ntp)
theorem ok_alike0 {f : Addr} {fd : FuncData} (F : Fun K "_law_alike" "_law_alike" sAlike f fd) (N : Nm mg) : FnOk P w K mg base CX0 1 f fd pAL (spAlike 0) := by
  refine F.ok scAlike (fun vs H Q E h => ?_) (fun cdv A outer s H vs Q E hr h => ?_)
  · obtain ⟨x, y, rfl, _⟩ := h
    rfl
  · obtain ⟨x, y, rfl, ⟨rfl, hx⟩, q⟩ := h
    exact flat_body (k := 0) N hx q
theorem ok_alikeS {f : Addr} {fd : FuncData} {n : Nat} (B : Fx K mg "_law_alike" sAlike pAL f fd) (G : FnOk P w K mg base CX0 (n + 1) f fd pAL (spAlike n)) (N : Nm mg) : FnOk P w K mg base CX0 (n + 2) f fd pAL (spAlike (n + 1)) := by
  refine B.F.ok scAlike (fun vs H Q E h => ?_) (fun cdv A outer s H vs Q E hr h => ?_)
  · obtain ⟨x, y, rfl, _⟩ := h
    rfl
  · obtain ⟨x, y, rfl, hxy, q⟩ := h
    rcases hxy with ⟨rfl, hx⟩ | ⟨xs, ys, hS, hp, hl⟩
    · exact flat_body (k := 0) N hx q
    · refine ⟨_, pss_cons (ps_if (pt_val (pe_callB call_isiT (by rfl) N.isinstance boot_isinstance (pa_cons (pv 1) (pa_cons (pe_tup (pa_cons (pe_bltn (v := .ty "tuple") (by rfl) N.tuple boot_tuple' rfl) (pa_cons (pe_bltn (v := .ty "list") (by rfl) N.list boot_list' rfl) pa_nil))) pa_nil))))
        (pss_cons (ps_if (PW.pt (pw_or (pt_not (pt_val (pe_callB call_isiT (by rfl) N.isinstance boot_isinstance (pa_cons (pv 0) (pa_cons (pe_tup (pa_cons (pe_bltn (v := .ty "tuple") (by rfl) N.tuple boot_tuple' rfl) (pa_cons (pe_bltn (v := .ty "list") (by rfl) N.list boot_list' rfl) pa_nil))) pa_nil)))))
            (pw_or1 (pt_cmpR op_ne (pe_callB call_isi (by rfl) N.isinstance boot_isinstance (pa_cons (pv 0) (pa_cons (pe_bltn (v := .ty "list") (by rfl) N.list boot_list' rfl) pa_nil))) (pe_callB call_isi (by rfl) N.isinstance boot_isinstance (pa_cons (pv 1) (pa_cons (pe_bltn (v := .ty "list") (by rfl) N.list boot_list' rfl) pa_nil))) (nomark _))))) pss_never pss_nil)
        (pss_cons (ps_if (pt_cmpR op_ne (pe_callB call_len_seq (by rfl) N.len PySem.boot_len (pa_cons (pv 0) pa_nil)) (pe_callB call_len_seq (by rfl) N.len PySem.boot_len (pa_cons (pv 1) pa_nil)) (nomark _)) pss_never pss_nil)
        (pss_one (ps_ret (pe_cmpR (op_eqD hr.units) (pe_lc (own := [("_law_k", 2)]) (g := gName 2) rfl scAlike.nd (pi_range1 (by rfl) N.range (pa_cons (pe_callB call_len_seq (by rfl) N.len PySem.boot_len (pa_cons (pv 1) pa_nil)) pa_nil)) (blkOk_by (N := nAlike) (sc := defScope sAlike) (by decide +kernel))
          (fun _ _ _ _ _ => pg_name (i := 2) scAlike.nd rfl (Or.inl rfl)) (fun _ _ _ _ _ => pts_one (pt_not (pt_val (fcall B G hr (by rfl) (pa_cons (pe_ix (r := rIxA K) ix_any (pv 0) (pv 2) (fun _ _ => rfl)) (pa_cons (pe_ix (r := rIxA K) ix_any (pv 1) (pv 2) (fun _ _ => rfl)) pa_nil)))))) (fun _ _ _ _ _ => pv 2)) (pe_lst pa_nil) (nomark _)))))) pss_nil) pss_never, ?_⟩
      obtain ⟨a, b, rfl, rfl, hS⟩ := hS
      have hlen := hp.length
      have facts : ∃ (T : String) (bl : Bool), PySem.W.kitAny K (.type T) [.type "tuple", .type "list"] = some true ∧ PySem.W.kitOne K (.type T) (.type "list") = some bl ∧ ∀ H', Ext none H H' → TyX K H' (.ref a) (.type T) ∧ TyX K H' (.ref b) (.type T) ∧ (SqL K H' a xs ∨ SqT K H' a xs) ∧ (SqL K H' b ys ∨ SqT K H' b ys) := by
        rcases hS with ⟨h1, h2⟩ | ⟨h1, h2⟩
        · exact ⟨"tuple", false, rfl, rfl, fun H' x => ⟨.base (.tup (x.tup h1)), .base (.tup (x.tup h2)), .inr (.inl (.inl (x.tup h1))), .inr (.inl (.inl (x.tup h2)))⟩⟩
        · exact ⟨"list", true, rfl, rfl, fun H' x => ⟨.base (.lst (x.lst h1)), .base (.lst (x.lst h2)), .inl (.inl (.inl (x.lst h1))), .inl (.inl (.inl (x.lst h2)))⟩⟩
      obtain ⟨T, bl, k1, k2, ft⟩ := facts
      refine ⟨.ref b, rfl, by show (2 : Nat) ≤ sizeLine; decide, fun tp ntp => ?_⟩
      have x1 : Ext none H (upd H tp (.tup [.ty "tuple", .ty "list"])) := .new ntp
      obtain ⟨ta1, tb1, sa1, sb1⟩ := ft _ x1
      refine ⟨.ref b, tp, _, .type T, [.type "tuple", .type "list"], true, rfl, upd_same, .cons (.ty _) (.cons (.ty _) .nil), tb1, k1, true, rfl, iteT ?_⟩
      refine ⟨.ref a, rfl, by show (2 : Nat) ≤ sizeLine; decide, fun tq ntq => ?_⟩
      have x2 : Ext none H _ := x1.trans (.new (o := .tup [.ty "tuple", .ty "list"]) ntq)
      obtain ⟨ta2, tb2, sa2, sb2⟩ := ft _ x2
      refine ⟨.ref a, tq, _, .type T, [.type "tuple", .type "list"], true, rfl, upd_same, .cons (.ty _) (.cons (.ty _) .nil), ta2, k1, true, rfl, iteF ?_⟩
      refine ⟨.ref a, rfl, _, _, .type T, .type "list", bl, rfl, .ty _, ta2, k2, .ref b, rfl, _, _, .type T, .type "list", bl, rfl, .ty _, tb2, k2, rfl, _, rfl, ?_⟩
      rw [decide_eq_true rfl]
      refine iteF ⟨.ref a, rfl, a, xs, rfl, sa2, .ref b, rfl, b, ys, rfl, sb2, rfl, _, rfl, ?_⟩
      rw [hlen, decide_eq_true rfl]
      generalize upd (upd H tp (.tup [.ty "tuple", .ty "list"])) tq (.tup [.ty "tuple", .ty "list"]) = H2 at *
      refine iteF ⟨.ref b, rfl, b, ys, rfl, sb2, _, rfl, by omega, by omega, fun D nD => ?_⟩
      have ixA : ∀ {H' : Hp} {c : Addr} {zs : List V} {i : Nat} {v : V} {R : VK}, (SqL K H' c zs ∨ SqT K H' c zs) → zs[i]? = some v → R v H' → rIxA K (.ref c) (.int (i : Nat)) H' R := fun {H' c zs i v R} hq e r => by
        rcases hq with hq | hq
        · exact .inl ⟨c, zs, i, v, rfl, rfl, hq, atI_nat e, r⟩
        · exact .inr ⟨c, zs, i, v, rfl, rfl, hq, atI_nat e, r⟩
      refine lc_range (lo := 0) (n := ys.length) (g := gName 2) (tt := tNot (tB (tCall (spAlike n) [] E0 (tCons (tOp (rIxA K) (tVar 0) (tVar 2)) (tCons (tOp (rIxA K) (tVar 1) (tVar 2)) tNil))))) (te := tVar 2) (vs := [2]) (σ := [some (.ref a), some (.ref b), none])
        (fun i H3 => Ext none H2 H3 ∧ H3 D = some (.lst [])) ⟨.new nD, upd_same⟩ ?_ ?_
      · rintro i H3 hi ⟨x3, eD⟩
        rw [Int.zero_add]
        obtain ⟨ta3, tb3, sa3, sb3⟩ := ft _ (x2.trans x3)
        have hi2 : i < xs.length := by rw [hlen]; exact hi
        obtain ⟨yi, ey, al⟩ := paired_get hp (List.getElem?_eq_getElem hi2)
        refine ⟨rfl, .ref a, rfl, .int i, rfl, ixA sa3 (List.getElem?_eq_getElem hi2) ⟨.ref b, rfl, .int i, rfl, ixA sb3 ey ⟨_, _, rfl, Alike.ext (x2.trans x3) al, fun H4 x4 => ⟨true, rfl, iteF ⟨x3.trans x4, x4.lst eD⟩⟩⟩⟩⟩
      · rintro H3 ⟨x3, eD⟩
        refine ⟨Nat.zero_le _, fun e ne => ⟨_, _, .lst (.inl (.inl (Ext.lst (.new ne) eD))) (dp_ints []), .lst (.inl (.inl upd_same)) (dp_ints []), shaped_lst [], shaped_lst [], ?_⟩⟩
        rw [eqv_lst, decide_eq_true rfl]
        exact q _ (x2.trans (x3.trans (.new ne)))
end
end K01

set_option Elab.async false
set_option linter.all false
set_option maxRecDepth 100000
set_option maxHeartbeats 2000000
namespace K01
open PySem PySem.Spec PyProof.Rows L2 GxR
section
variable {P : Program} {w : World} {K : PySem.W.Frag} {mg : Str → Option Value} {base : Heap}
def spPick (K : PySem.W.Frag) : Sp := fun vs H Q _ => ∃ (r th x y : Addr) (z : Addr × List Int), vs = [.ref r, .ref th] ∧ H th = some (.lst [.ref x, .ref y]) ∧ RowOk K H r z ∧ ∀ H' v, Ext (some r) H H' → RowOk K H' r z → (v = x ∨ v = y) → Q (.ref v) H'
theorem ok_pick {f fT : Addr} {fd fdT : FuncData} (F : Fun K "_law_pick" "_law_pick" sPick f fd) (BT : Fx K mg "_law_taken" sTaken pRM fT fdT) (GT : FnOk P w K mg base CX0 1 fT fdT pRM (spTaken K)) (N : Nm mg) : FnOk P w K mg base CX0 2 f fd ["_law_row", "_law_things"] (spPick K) := by
  refine F.ok scPick (fun vs H Q E h => ?_) (fun cdv A outer s H vs Q E hr h => ?_)
  · obtain ⟨r, th, x, y, z, rfl, _⟩ := h
    rfl
  · obtain ⟨r, th, x, y, z, rfl, eT, R, q⟩ := h
    refine ⟨_, pss_one (ps_ret (pe_ix ix_list (pv 1) (fcall BT GT hr (by rfl) (pa_cons (pv 0) (pa_cons (pe_callB call_len_seq (by rfl) N.len PySem.boot_len (pa_cons (pv 1) pa_nil)) pa_nil))) (fun _ _ => rfl))), ?_⟩
    have ne : th ≠ r := fun e => by
      obtain ⟨⟨a, b, c, eR, _⟩, _⟩ := R
      rw [e, eR] at eT
      have q1 := HO.lst.inj (Option.some.inj eT)
      have q2 := congrArg List.length q1
      simp at q2
    refine ⟨.ref th, rfl, .ref r, rfl, .ref th, rfl, th, _, rfl, .inl (.inl (.inl eT)), r, 2, z, rfl, by omega, by omega, R, fun H1 v x1 R1 v0 v1 => ?_⟩
    have e1 : H1 th = some (.lst [.ref x, .ref y]) := x1.keep th _ (fun z => ne (Option.some.inj z)) eT fun ps z => nomatch z
    rcases (by omega : v = 0 ∨ v = 1) with e | e
    · subst e
      exact ⟨th, _, 0, .ref x, rfl, rfl, .inl (.inl e1), rfl, q H1 x x1 R1 (.inl rfl)⟩
    · subst e
      exact ⟨th, _, 1, .ref y, rfl, rfl, .inl (.inl e1), rfl, q H1 y x1 R1 (.inr rfl)⟩
end
/-! ### what is alike -/
theorem alike_ints {H : Hp} : ∀ L : List Int, Paired (Alike 0 H) (L.map V.int) (L.map V.int)
  | [] => .nil
  | i :: L => .cons ⟨rfl, .inr ⟨i, rfl⟩⟩ (alike_ints L)
theorem alike_tup {H : Hp} {a b : Addr} {L : List Int} (ha : IntT H a L) (hb : IntT H b L) (hl : L.length ≤ 3125) : Alike 1 H (.ref a) (.ref b) :=
  .inr ⟨_, _, ⟨a, b, rfl, rfl, .inl ⟨ha, hb⟩⟩, alike_ints L, by rw [List.length_map]; exact hl⟩
theorem alike_flat {H : Hp} {x : V} {n : Nat} (h : Flat x) : Alike n H x x := by
  cases n with
  | zero => exact ⟨rfl, h⟩
  | succ n => exact .inl ⟨rfl, h⟩
theorem alike_tups {H : Hp} : ∀ {as bs : List Addr} {ls : List (List Int)}, TupsAt H as ls → TupsAt H bs ls → (∀ l ∈ ls, l.length ≤ 3125) → Paired (Alike 1 H) (as.map V.ref) (bs.map V.ref)
  | _, _, _, .nil, .nil, _ => .nil
  | _, _, _, .cons h1 t1, .cons h2 t2, hl => .cons (alike_tup h1 h2 (hl _ (List.mem_cons_self ..))) (alike_tups t1 t2 fun l h => hl l (List.mem_cons_of_mem _ h))
theorem alike_hab {H : Hp} {a b : Addr} {ls : List (List Int)} (ha : HabAt H a ls) (hb : HabAt H b ls) (hl : ls.length ≤ 3125) (hm : ∀ l ∈ ls, l.length ≤ 3125) : Alike 2 H (.ref a) (.ref b) := by
  obtain ⟨as, e1, t1⟩ := ha
  obtain ⟨bs, e2, t2⟩ := hb
  exact .inr ⟨_, _, ⟨a, b, rfl, rfl, .inl ⟨e1, e2⟩⟩, alike_tups t1 t2 hm, by rw [List.length_map, t1.length]; exact hl⟩
/-! ### what stands while the law runs -/
structure Lw (K : PySem.W.Frag) (H : Hp) (r : Addr) (z : Addr × List Int) (a l : Addr) (h : List (List Int)) (L : List Int) (T T2 : Addr) : Prop where
  row : RowOk K H r z
  hab : HabAt H a h
  lay : IntT H l L
  tab : TabG H T
  tab2 : TabG H T2
section
variable {K : PySem.W.Frag} {H H' : Hp} {r a l T T2 : Addr} {z : Addr × List Int} {h : List (List Int)} {L : List Int}
theorem Lw.near (W : Lw K H r z a l h L T T2) (x : Ext none H H') : Lw K H' r z a l h L T T2 := ⟨W.row.ext x, W.hab.ext x, W.lay.ext x, x.tab _ W.tab, x.tab _ W.tab2⟩
theorem extR_hab {xs : List V} (x : Ext (some r) H H') (e : H r = some (.lst xs)) (t : HabAt H a h) : HabAt H' a h := by
  obtain ⟨bs, e1, t1⟩ := t
  exact ⟨bs, x.keep a _ (fun z => by rw [Option.some.inj z, e] at e1; cases e1) e1 (fun ps z => nomatch z), Paired.mono (fun b l q => extR_int (L := l) x e q) t1⟩
theorem extR_dT {xs : List V} {d : Addr} {kvs : List (List Key × V)} (x : Ext (some r) H H') (e : H r = some (.lst xs)) (t : H d = some (.dT kvs)) : H' d = some (.dT kvs) :=
  x.keep d _ (fun z => by rw [Option.some.inj z, e] at t; cases t) t (fun ps z => nomatch z)
theorem Lw.draw (W : Lw K H r z a l h L T T2) (x : Ext (some r) H H') (R : RowOk K H' r z) : Lw K H' r z a l h L T T2 := by
  obtain ⟨xs, e⟩ := row_some W.row
  exact ⟨R, extR_hab x e W.hab, extR_int x e W.lay, x.tab _ W.tab, x.tab _ W.tab2⟩
end
/-! ### the sorted layouts -/
theorem srt_len' {ls : List (List Int)} {n : Nat} (h : ∀ l ∈ ls, l.length ≤ n) : ∀ l ∈ srt ls, l.length ≤ n := fun l hl => h l ((srt_perm ls).mem_iff.mp hl)
end K01

set_option Elab.async false
set_option linter.all false
set_option maxRecDepth 100000
set_option maxHeartbeats 4000000
namespace K01
open PySem PySem.Spec PyProof.Rows L2 GxR
section
variable {P : Program} {w : World} {K : PySem.W.Frag} {mg : Str → Option Value} {base : Heap}
abbrev pHOO : List Str := ["habit", "one", "other"]
abbrev pLN : List Str := ["_law_habit_here", "_law_layout"]
abbrev pLW : List Str := ["_law_habit_here", "_law_layout", "_law_other", "_law_many"]
def spLaw (K : PySem.W.Frag) (T T2 : Addr) : Sp := fun vs H Q _ => ∃ (scr : Addr) (ns : List Int), vs = [.ref scr] ∧ SqL K H scr (ns.map V.int) ∧ TabG H T ∧ TabG H T2 ∧ ∀ H', Q (.bl true) H'
/-- the defs that the law calls -/
structure Cl (P : Program) (w : World) (K : PySem.W.Frag) (mg : Str → Option Value) (base : Heap) (T T2 : Addr) where
  fT : Addr
  dT : FuncData
  bT : Fx K mg "_law_taken" sTaken pRM fT dT
  gT : FnOk P w K mg base CX0 1 fT dT pRM (spTaken K)
  fO : Addr
  dO : FuncData
  bO : Fx K mg "_law_order" sLOrder pRM fO dO
  gO : FnOk P w K mg base CX0 2 fO dO pRM (spLOrder K)
  fH : Addr
  dH : FuncData
  bH : Fx K mg "_law_habit" sLHabit ["_law_row", "_law_places"] fH dH
  gH : FnOk P w K mg base CX0 3 fH dH ["_law_row", "_law_places"] (spLHabit K)
  fA : Addr
  dA : FuncData
  bA : Fx K mg "_law_alike" sAlike pAL fA dA
  gA1 : FnOk P w K mg base CX0 2 fA dA pAL (spAlike 1)
  gA2 : FnOk P w K mg base CX0 3 fA dA pAL (spAlike 2)
  fL : Addr
  dL : FuncData
  bL : Fx K mg "_law_touch" sLTouch pLT fL dL
  gL : FnOk P w K mg base CX0 1 fL dL pLT spBT
  fN : Addr
  dN : FuncData
  bN : Fx K mg "_law_near" sNear pLN fN dN
  gN : FnOk P w K mg base CX0 2 fN dN pLN spNear
  fP : Addr
  dP : FuncData
  bP : Fx K mg "_law_pick" sPick ["_law_row", "_law_things"] fP dP
  gP : FnOk P w K mg base CX0 2 fP dP ["_law_row", "_law_things"] (spPick K)
  fW : Addr
  dW : FuncData
  bW : Fx K mg "_law_least_word" sLeast pLW fW dW
  gW : FnOk P w K mg base CX0 2 fW dW pLW spLeast
  f1 : Addr
  d1 : FuncData
  b1 : Fx K mg "touched" sTouched pBT f1 d1
  g1 : FnOk P w K mg base CX0 5 f1 d1 pBT (spTouched T)
  f2 : Addr
  d2 : FuncData
  b2 : Fx K mg "after" sAfter ["habit", "layout", "word"] f2 d2
  g2 : FnOk P w K mg base CX0 5 f2 d2 ["habit", "layout", "word"] (spAfter T T2)
  f3 : Addr
  d3 : FuncData
  b3 : Fx K mg "can_come" sCC pWF f3 d3
  g3 : FnOk P w K mg base CX0 5 f3 d3 pWF (spCC T)
  f4 : Addr
  d4 : FuncData
  b4 : Fx K mg "word_between" sWB pHOO f4 d4
  g4 : FnOk P w K mg base CX0 5 f4 d4 pHOO (spWB T)
  f5 : Addr
  d5 : FuncData
  b5 : Fx K mg "distance" sDist pHOO f5 d5
  g5 : FnOk P w K mg base CX0 6 f5 d5 pHOO (spDist T)
  f6 : Addr
  d6 : FuncData
  b6 : Fx K mg "farthest" sFar pWF f6 d6
  g6 : FnOk P w K mg base CX0 5 f6 d6 pWF (spFar T)
  f7 : Addr
  d7 : FuncData
  b7 : Fx K mg "order" sOrder ["habit"] f7 d7
  g7 : FnOk P w K mg base CX0 4 f7 d7 ["habit"] (spOrd T)
theorem ok_law {f T T2 : Addr} {fd : FuncData} (F : Fun K "law" "law" sLaw f fd) (C : Cl P w K mg base T T2) (N : Nm mg) : FnOk P w K mg base CX0 7 f fd ["_law_script"] (spLaw K T T2) := by
  refine F.ok scLaw (fun vs H Q E h => ?_) (fun cdv A outer s H vs Q E hr h => ?_)
  · obtain ⟨scr, ns, rfl, _⟩ := h
    rfl
  · obtain ⟨scr, ns, rfl, hS, hT, hT2, q⟩ := h
    refine ⟨_, pss_cons (ps_set (i := 1) scLaw.nd rfl (.inr rfl) (pe_lst (pa_cons (pv 0) (pa_cons pe_int (pa_cons pe_int (pa_cons pe_int pa_nil)))))) (pss_cons (ps_set (i := 2) scLaw.nd rfl (.inr rfl) (pe_op op_add pe_int (fcall C.bT C.gT (hr.mono (by decide)) (by rfl) (pa_cons (pv 1) (pa_cons (pe_ix ix_list (pe_lst (pa_cons pe_int (pa_cons pe_int pa_nil))) (fcall C.bT C.gT (hr.mono (by decide)) (by rfl) (pa_cons (pv 1) (pa_cons pe_int pa_nil))) (fun _ _ => rfl)) pa_nil))))) (pss_cons (ps_par (i := 3) (j := 4) (by rfl) scLaw.nd rfl rfl (by decide) rfl rfl (pa_cons (fcall C.bH C.gH (hr.mono (by decide)) (by rfl) (pa_cons (pv 1) (pa_cons (pv 2) pa_nil))) (pa_cons (fcall C.bO C.gO (hr.mono (by decide)) (by rfl) (pa_cons (pv 1) (pa_cons (pv 2) pa_nil))) pa_nil)) (by rfl)) (pss_cons (ps_par (i := 6) (j := 7) (by rfl) scLaw.nd rfl rfl (by decide) rfl rfl (pa_cons (pe_tupleOf (by rfl) N.tuple (pe_lc (own := [("_law_turn", 5)]) (g := gName 5) rfl scLaw.nd (pi_range1 (by rfl) N.range (pa_cons (fcall C.bT C.gT (hr.mono (by decide)) (by rfl) (pa_cons (pv 1) (pa_cons pe_int pa_nil))) pa_nil)) (blkOk_by (N := nLaw) (sc := defScope sLaw) (by decide +kernel)) (fun _ _ _ _ _ => pg_name (i := 5) scLaw.nd rfl (Or.inl rfl)) (fun _ _ _ _ _ => pts_nil) (fun _ _ _ _ _ => (fcall C.bT C.gT (hr.mono (by decide)) (by rfl) (pa_cons (pv 1) (pa_cons (pv 2) pa_nil)))))) (pa_cons (pv 4) pa_nil)) (by rfl)) (pss_cons (ps_for PassesOwn.never rfl (pi_tup (pv 6)) (pg_name (i := 8) scLaw.nd rfl (.inl rfl)) (pss_cons (ps_if (pt_not (pt_val (fcall C.bA C.gA1 (hr.mono (by decide)) (by rfl) (pa_cons (fcall C.b1 C.g1 (hr.mono (by decide)) (by rfl) (pa_cons (pv 3) (pa_cons (pv 7) (pa_cons (pv 8) pa_nil)))) (pa_cons (fcall C.bL C.gL (hr.mono (by decide)) (by rfl) (pa_cons (pv 3) (pa_cons (pv 7) (pa_cons (pv 8) pa_nil)))) pa_nil))))) pss_never pss_nil) (pss_one (ps_set (i := 7) scLaw.nd rfl (.inl rfl) (fcall C.bL C.gL (hr.mono (by decide)) (by rfl) (pa_cons (pv 3) (pa_cons (pv 7) (pa_cons (pv 8) pa_nil)))))))) (pss_cons (ps_if (pt_not (pt_val (fcall C.bA C.gA1 (hr.mono (by decide)) (by rfl) (pa_cons (fcall C.b2 C.g2 (hr.mono (by decide)) (by rfl) (pa_cons (pv 3) (pa_cons (pv 4) (pa_cons (pv 6) pa_nil)))) (pa_cons (pv 7) pa_nil))))) pss_never pss_nil) (pss_cons (ps_set (i := 9) scLaw.nd rfl (.inl rfl) (fcall C.bN C.gN (hr.mono (by decide)) (by rfl) (pa_cons (pv 3) (pa_cons (pv 4) pa_nil)))) (pss_cons (ps_if (pt_not (pt_val (fcall C.bA C.gA2 (hr.mono (by decide)) (by rfl) (pa_cons (fcall C.b3 C.g3 (hr.mono (by decide)) (by rfl) (pa_cons (pv 3) (pa_cons (pv 4) pa_nil))) (pa_cons (pe_tupleOf (by rfl) N.tuple (pe_callB (call_sortedLT hr.units) (by rfl) N.sorted boot_sorted' (pa_cons (pe_callTy (call_list_dT rfl) (by rfl) N.list boot_list' (pa_cons (pv 9) pa_nil)) pa_nil))) pa_nil))))) pss_never pss_nil) (pss_cons (ps_for PassesOwn.never rfl (pi_range1 (by rfl) N.range (pa_cons pe_int pa_nil)) (pg_name (i := 5) scLaw.nd rfl (.inl rfl)) (pss_cons (ps_set (i := 10) scLaw.nd rfl (.inl rfl) (fcall C.bP C.gP (hr.mono (by decide)) (by rfl) (pa_cons (pv 1) (pa_cons (pe_lst (pa_cons (fcall C.bO C.gO (hr.mono (by decide)) (by rfl) (pa_cons (pv 1) (pa_cons (pv 2) pa_nil))) (pa_cons (pv 7) pa_nil))) pa_nil)))) (pss_cons (ps_set (i := 11) scLaw.nd rfl (.inl rfl) (fcall C.b4 C.g4 (hr.mono (by decide)) (by rfl) (pa_cons (pv 3) (pa_cons (pv 4) (pa_cons (pv 10) pa_nil))))) (pss_cons (ps_if (pt_not (pt_val (fcall C.bA C.gA1 (hr.mono (by decide)) (by rfl) (pa_cons (fcall C.b5 C.g5 hr (by rfl) (pa_cons (pv 3) (pa_cons (pv 4) (pa_cons (pv 10) pa_nil)))) (pa_cons (pe_dget2 (hu_of hr) (pv 9) (pv 10) pe_non ⟨by rfl, by rfl, by rfl, by rfl⟩) pa_nil))))) pss_never pss_nil) (pss_one (ps_if (pt_cmp (pc_isN (pv 11))) (pss_one (ps_if (pt_cmp (pc_din (hu_of hr) (pv 10) (pv 9))) pss_never pss_nil)) (pss_one (ps_if (PW.pt (pw_or (pt_cmp (pc_dnotin (hu_of hr) (pv 10) (pv 9))) (pw_or1 (pt_cmpR (op_neD hr.units) (pv 11) (fcall C.bW C.gW (hr.mono (by decide)) (by rfl) (pa_cons (pv 3) (pa_cons (pv 4) (pa_cons (pv 10) (pa_cons (pe_dget (hu_of hr) (pv 9) (pv 10) (fun _ _ => rfl)) pa_nil))))) (nomark _))))) pss_never (pss_one (ps_if (pt_cmp (pc_dnotin (hu_of hr) (pv 4) (fcall C.bN C.gN (hr.mono (by decide)) (by rfl) (pa_cons (pv 3) (pa_cons (pv 10) pa_nil))))) pss_never pss_nil)))))))))) (pss_cons (ps_set (i := 12) scLaw.nd rfl (.inl rfl) (fcall C.bN C.gN (hr.mono (by decide)) (by rfl) (pa_cons (pv 3) (pa_cons (pe_tupRg rfl (by rfl) N.tuple (prg_1 (by rfl) N.range (pv 2))) pa_nil)))) (pss_one (ps_ret (fcall C.bA C.gA1 (hr.mono (by decide)) (by rfl) (pa_cons (pe_lst (pa_cons (fcall C.b6 C.g6 (hr.mono (by decide)) (by rfl) (pa_cons (pv 3) (pa_cons (pv 4) pa_nil))) (pa_cons (fcall C.b7 C.g7 (hr.mono (by decide)) (by rfl) (pa_cons (pv 3) pa_nil)) pa_nil))) (pa_cons (pe_lst (pa_cons (pe_callB (cr_max rfl) (by rfl) N.max boot_max' (pa_cons (pe_listVals rfl (pv 9) (by rfl) N.list boot_list') pa_nil)) (pa_cons (pe_callB call_len_seq (by rfl) N.len PySem.boot_len (pa_cons (pe_callTy (call_list_dT rfl) (by rfl) N.list boot_list' (pa_cons (pv 12) pa_nil)) pa_nil)) pa_nil))) pa_nil)))))))))))))), ?_⟩
    have two : (2 : Nat) ≤ sizeLine := by decide
    -- row = [script, 0, 5001, 0]
    refine ⟨.ref scr, rfl, by show (4 : Nat) ≤ sizeLine; decide, fun r nr => ?_⟩
    have x1 : Ext none H (upd H r (.lst [.ref scr, .int 0, .int 5001, .int 0])) := .new nr
    have R1 : RowOk K (upd H r (.lst [.ref scr, .int 0, .int 5001, .int 0])) r (scr, ns) := ⟨⟨0, 5001, 0, upd_same, Int.le_refl _⟩, SqL.ext x1 (fun z => nomatch z) hS⟩
    have t1 := x1.tab T hT
    have t2 := x1.tab T2 hT2
    generalize upd H r (.lst [.ref scr, .int 0, .int 5001, .int 0]) = H1 at *
    obtain ⟨xr, eR1⟩ := row_some R1
    generalize (scr, ns) = z at *
    -- places
    refine ⟨.ref r, rfl, two, fun c nc => ⟨.ref r, rfl, r, 2, z, rfl, by omega, by omega, R1.ext (.new nc), fun H2 v x2 R2 v0 v1 => ?_⟩⟩
    have cr : c ≠ r := (ne_of_none eR1 nc).symm
    have ec : H2 c = some (.lst [.int 3, .int 4]) := x2.keep c _ (fun z => cr (Option.some.inj z)) upd_same fun ps z => nomatch z
    have hm : ∃ m : Int, atI [V.int 3, V.int 4] v = some (.int m) ∧ 3 ≤ m ∧ m ≤ 4 := by
      rcases (by omega : v = 0 ∨ v = 1) with e | e
      · rw [e]; exact ⟨3, rfl, by omega, by omega⟩
      · rw [e]; exact ⟨4, rfl, by omega, by omega⟩
    obtain ⟨m, em, m3, m4⟩ := hm
    refine ⟨c, _, v, .int m, rfl, rfl, .inl (.inl ec), em, r, m, z, rfl, by omega, by omega, R2, fun H3 u x3 R3 u0 u1 => ⟨2, u, rfl, rfl, ?_⟩⟩
    obtain ⟨n, hn⟩ : ∃ n : Nat, 2 + u = (n : Int) := ⟨(2 + u).toNat, by omega⟩
    have h2 : 2 ≤ n := by omega
    have h5 : n ≤ 5 := by omega
    show gName 2 (.int (2 + u)) _ _ _
    rw [hn]
    have xA : Ext (some r) H1 H3 := (Ext.new nc).trans (x2.trans x3)
    -- habit, layout
    refine ⟨.ref r, rfl, .int n, rfl, r, n, z, rfl, h5, R3, fun H4 ha h x4 R4 hA4 hI => ⟨.ref r, rfl, .int n, rfl, r, n, z, rfl, h5, R4, fun H5 lo L x5 R5 _ iL pL => ⟨_, _, rfl, ?_⟩⟩⟩
    obtain ⟨xr4, eR4⟩ := row_some R4
    have W5 : Lw K H5 r z ha lo h L T T2 := ⟨R5, extR_hab x5 eR4 hA4, iL, ((xA.trans x4).trans x5).tab _ t1, ((xA.trans x4).trans x5).tab _ t2⟩
    clear x1 t1 t2 eR1 nc x2 R2 ec cr em x3 R3 xA x4 R4 hA4 x5 R5 iL eR4
    -- word
    refine ⟨.ref r, rfl, r, 12, z, rfl, by omega, by omega, W5.row, fun H6 c x6 R6 c0 c1 => ⟨c, rfl, by omega, by omega, fun D nD => ?_⟩⟩
    have W6 := W5.draw x6 R6
    obtain ⟨xr6, eR6⟩ := row_some R6
    have Dr : D ≠ r := (ne_of_none eR6 nD).symm
    refine lc_range (lo := 0) (n := c.toNat) (g := gName 5) (tt := tYes) (te := tCall (spTaken K) [] E0 (tCons (tVar 1) (tCons (tVar 2) tNil))) (vs := [5]) (σ := [some (.ref scr), some (.ref r), some (.int n), some (.ref ha), some (.ref lo), none, none, none, none, none, none, none, none])
      (fun i H' => Ext (some r) H6 H' ∧ RowOk K H' r z ∧ ∃ Wd : List Int, H' D = some (.lst (Wd.map V.int)) ∧ Wd.length = i ∧ ∀ x ∈ Wd, 0 ≤ x ∧ x < (n : Int)) ⟨.new nD, R6.ext (.new nD), [], upd_same, rfl, fun x hx => by cases hx⟩ ?_ ?_
    · rintro i H7 hi ⟨x7, R7, Wd, eD, lW, hW⟩
      refine ⟨rfl, .ref r, rfl, .int n, rfl, r, n, z, rfl, by omega, by omega, R7, fun H8 v x8 R8 v0 v1 => ?_⟩
      have eD8 : H8 D = some (.lst (Wd.map V.int)) := x8.keep D _ (fun z => Dr (Option.some.inj z)) eD fun ps z => nomatch z
      have x9 := (x7.trans x8).set (o' := .lst (Wd.map V.int ++ [.int v])) nD eD8 (fun ps z => nomatch z)
      refine ⟨_, eD8, small_line (by rw [List.length_map]; omega), x9, R6.from x9 (R8.1.upd Dr), Wd ++ [v], ?_, by rw [List.length_append, lW]; rfl, fun x hx => ?_⟩
      · rw [upd_same, List.map_append]
        rfl
      · rcases List.mem_append.mp hx with h1 | h1
        · exact hW x h1
        · rw [List.mem_singleton.mp h1]
          exact ⟨v0, v1⟩
    rintro H7 ⟨x7, R7, Wd, eD, lW, hW⟩
    refine .inl ⟨D, _, rfl, .inl (.inl eD), fun ww nww => ⟨.ref lo, rfl, _, _, rfl, ?_⟩⟩
    have x8 : Ext none H7 (upd H7 ww (.tup (Wd.map V.int))) := .new nww
    have W8 := (W6.draw x7 R7).near x8
    have iw8 : IntT (upd H7 ww (.tup (Wd.map V.int))) ww Wd := upd_same
    generalize upd H7 ww (.tup (Wd.map V.int)) = H8 at *
    have lW12 : Wd.length ≤ 12 := by omega
    clear x6 R6 W6 eR6 x7 R7 eD nww x8 W5 Dr
    have plen : ∀ {M : List Int}, IsPerm n M → M.length ≤ 3125 := fun {M} p => by rw [p.len]; omega
    -- touch by touch
    refine ⟨.ref ww, rfl, ww, rfl, ⟨_, iw8.sq⟩, for_tup (K := K) (a := ww) (xs := Wd.map V.int) (fun i σ H' => ∃ he z5 z8, σ = [some (.ref scr), some (.ref r), some (.int n), some (.ref ha), some (.ref lo), z5, some (.ref ww), some (.ref he), z8, none, none, none, none] ∧
      Lw K H' r z ha lo h L T T2 ∧ IntT H' ww Wd ∧ IntT H' he (along h L (Wd.take i))) ⟨lo, none, none, rfl, W8, iw8, W8.lay⟩ (fun i σ H' _ ⟨_, _, _, _, _, e, _⟩ => e.sq) ?_ ?_⟩
    · rintro i x σ H9 hx ⟨he, z5, z8, rfl, W9, iw9, ih9⟩
      rw [List.getElem?_map] at hx
      obtain ⟨p, ep, rfl⟩ := Option.map_eq_some_iff.mp hx
      have hp := hW p (List.mem_of_getElem? ep)
      have pa := along_perm hI pL (w := Wd.take i) fun v hv => hW v (List.mem_of_mem_take hv)
      have pt := touch_perm hI pa (p := p.toNat) (by omega)
      have ev : ∀ a b : Addr, [V.ref a, .ref b, .int p] ++ [] = [V.ref a, .ref b, .int (p.toNat : Nat)] := fun a b => by rw [Int.toNat_of_nonneg hp.1]; rfl
      refine ⟨.ref ha, rfl, .ref he, rfl, .int p, rfl, ha, he, n, p.toNat, h, _, ev _ _, W9.hab, hI, ih9, pa, h2, h5, by omega, W9.tab, fun H10 r1 x10 i1 => ?_⟩
      have W10 := W9.near x10
      refine ⟨.ref ha, rfl, .ref he, rfl, .int p, rfl, ha, he, n, p.toNat, h, _, ev _ _, W10.hab, hI, ih9.ext x10, pa, h5, by omega, fun H11 r2 x11 i2 => ?_⟩
      have W11 := W10.near x11
      refine ⟨_, _, rfl, alike_tup (i1.ext x11) i2 (plen pt), fun H12 x12 => ⟨true, rfl, iteF ?_⟩⟩
      have W12 := W11.near x12
      have y12 := x10.trans (x11.trans x12)
      refine ⟨.ref ha, rfl, .ref he, rfl, .int p, rfl, ha, he, n, p.toNat, h, _, ev _ _, W12.hab, hI, ih9.ext y12, pa, h5, by omega, fun H13 r3 x13 i3 => ?_⟩
      exact ⟨r3, z5, some (.int p), rfl, W12.near x13, iw9.ext (y12.trans x13), by rw [along_take h L ep]; exact i3⟩
    rintro σ H9 ⟨he, z5, z8, rfl, W9, iw9, ih9⟩
    have ea : Wd.take (Wd.map V.int).length = Wd := List.take_of_length_le (by rw [List.length_map]; exact Nat.le_refl _)
    rw [ea] at ih9
    have pH := along_perm hI pL hW
    obtain ⟨Lh, eLh⟩ : ∃ Lh, along h L Wd = Lh := ⟨_, rfl⟩
    rw [eLh] at ih9 pH
    clear W8 iw8
    -- after
    refine ⟨.ref ha, rfl, .ref lo, rfl, .ref ww, rfl, ha, lo, ww, n, h, L, Wd, rfl, W9.hab, hI, W9.lay, pL, h2, h5, iw9, hW, by omega, W9.tab, W9.tab2, fun H10 r1 x10 i1 => ?_⟩
    have W10 := W9.near x10
    have ih10 := ih9.ext x10
    rw [eLh] at i1
    refine ⟨.ref he, rfl, _, _, rfl, alike_tup i1 ih10 (plen pH), fun H11 x11 => ⟨true, rfl, iteF ?_⟩⟩
    have W11 := W10.near x11
    have ih11 := ih10.ext x11
    clear W9 ih9 iw9 x10 W10 ih10 i1 x11 hW
    -- near_here
    refine ⟨.ref ha, rfl, .ref lo, rfl, ha, lo, n, h, L, rfl, W11.hab, hI, W11.lay, pL, h5, fun H12 nd x12 _ end12 => ?_⟩
    have W12 := W11.near x12
    have ih12 := ih11.ext x12
    clear W11 ih11 x12
    have hsz := found_size hI h5 pL
    have ksz : ((found h L).map (·.1)).length ≤ 3125 := by rw [List.length_map]; exact hsz
    have kpm : ∀ M ∈ (found h L).map (·.1), IsPerm n M := fun M hM => by
      obtain ⟨t, ht, e⟩ := List.mem_map.mp hM
      rw [← e]
      exact found_perm hI pL t ht
    -- can_come
    refine ⟨.ref ha, rfl, .ref lo, rfl, ha, lo, n, h, L, rfl, W12.hab, hI, W12.lay, pL, h2, h5, W12.tab, fun H13 r1 x13 hb1 => ?_⟩
    have W13 := W12.near x13
    have end13 := x13.dT end12
    have ih13 := ih12.ext x13
    clear W12 ih12 end12 x13
    refine ⟨.ref nd, rfl, nd, dist (found h L), rfl, .inl end13, fun p bs np kb => ?_⟩
    have tb : TupsAt H13 bs ((found h L).map (·.1)) := by
      have e1 : dist (found h L) = ((found h L).map fun t => (t.1, V.int (t.2.length : Nat))).map fun t => (t.1.map Sum.inl, t.2) := by unfold dist; rw [List.map_map]; rfl
      rw [e1] at kb
      have e2 := tups_keys kb
      rw [List.map_map] at e2
      exact e2
    have xp : Ext none H13 (upd H13 p (.lst (bs.map V.ref))) := .new np
    refine ⟨p, bs, (found h L).map (·.1), rfl, .inl (.inl upd_same), xp.tups tb, fun M hM => perm_ne (kpm M hM) h2, Nat.le_of_lt (small_line (by omega)), fun p2 bs2 np2 tb2 => ?_⟩
    have xp2 : Ext none _ (upd (upd H13 p (.lst (bs.map V.ref))) p2 (.lst (bs2.map V.ref))) := .new np2
    refine .inl ⟨p2, _, rfl, .inl (.inl upd_same), fun p3 np3 => ?_⟩
    have xp3 : Ext none _ (upd (upd (upd H13 p (.lst (bs.map V.ref))) p2 (.lst (bs2.map V.ref))) p3 (.tup (bs2.map V.ref))) := .new np3
    have x14 := xp.trans (xp2.trans xp3)
    refine ⟨_, _, rfl, alike_hab (hb1.ext x14) ⟨bs2, upd_same, xp3.tups (xp2.tups tb2)⟩ (by rw [srt_len]; exact ksz) (srt_len' fun M hM => plen (kpm M hM)), fun H15 x15 => ⟨true, rfl, iteF ?_⟩⟩
    have y15 := x14.trans x15
    have W15 := W13.near y15
    have end15 := y15.dT end13
    have ih15 := ih13.ext y15
    clear W13 ih13 end13 hb1 kb tb xp xp2 xp3 x14 x15 y15 np np2 np3
    -- three draws
    refine ⟨3, rfl, by omega, by omega, for_range (lo := 0) (n := 3) (fun i σ H' => ∃ z5 z8 z10 z11, σ = [some (.ref scr), some (.ref r), some (.int n), some (.ref ha), some (.ref lo), z5, some (.ref ww), some (.ref he), z8, some (.ref nd), z10, z11, none] ∧
      Lw K H' r z ha lo h L T T2 ∧ H' nd = some (.dT (dist (found h L))) ∧ IntT H' he Lh) ⟨z5, z8, none, none, rfl, W15, end15, ih15⟩ ?_ ?_⟩
    · rintro i σ H16 hi ⟨z5, z8, z10, z11, rfl, W16, end16, ih16⟩
      refine ⟨.ref r, rfl, .ref r, rfl, .int n, rfl, r, n, z, rfl, h5, W16.row, fun H17 o1 O1 x17 R17 _ io1 po1 => ⟨.ref he, rfl, two, fun th nth => ?_⟩⟩
      obtain ⟨xr16, eR16⟩ := row_some W16.row
      have W17 := (W16.draw x17 R17).near (.new (o := .lst [.ref o1, .ref he]) nth)
      have end17 := Ext.dT (.new (o := .lst [.ref o1, .ref he]) nth) (extR_dT x17 eR16 end16)
      have ih17 := IntT.ext (extR_int x17 eR16 ih16) (.new (o := .lst [.ref o1, .ref he]) nth)
      have io17 := IntT.ext io1 (.new (o := .lst [.ref o1, .ref he]) nth)
      refine ⟨r, th, o1, he, z, rfl, upd_same, W17.row, fun H18 o x18 R18 ho => ?_⟩
      generalize upd H17 th (.lst [.ref o1, .ref he]) = H17' at *
      obtain ⟨xr17, eR17⟩ := row_some W17.row
      have W18 := W17.draw x18 R18
      have end18 := extR_dT x18 eR17 end17
      have ih18 := extR_int x18 eR17 ih17
      have hO : ∃ O, IntT H18 o O ∧ IsPerm n O := by
        rcases ho with e | e
        · rw [e]; exact ⟨O1, extR_int x18 eR17 io17, po1⟩
        · rw [e]; exact ⟨Lh, ih18, pH⟩
      obtain ⟨O, iO, pO⟩ := hO
      clear W16 end16 ih16 x17 R17 io1 po1 eR16 W17 end17 ih17 io17 x18 R18 ho eR17 nth
      -- word_between
      refine ⟨.ref ha, rfl, .ref lo, rfl, .ref o, rfl, ha, lo, o, n, h, L, O, rfl, W18.hab, hI, W18.lay, pL, iO, pO, h2, h5, W18.tab, fun H19 b t x19 ht et ib => ?_, fun H19 x19 hno => ?_⟩
      · have W19 := W18.near x19
        have end19 := x19.dT end18
        have ih19 := ih18.ext x19
        have iO19 := iO.ext x19
        refine ⟨.ref ha, rfl, .ref lo, rfl, .ref o, rfl, ha, lo, o, n, h, L, O, rfl, W19.hab, hI, W19.lay, pL, iO19, pO, h2, h5, W19.tab, fun H20 t' x20 ht' et' => ?_, fun H20 x20 hno => absurd (List.mem_map.mpr ⟨t, ht, et⟩) hno⟩
        have W20 := W19.near x20
        have end20 := x20.dT end19
        have iO20 := iO19.ext x20
        have ib20 := ib.ext x20
        have ih20 := ih19.ext x20
        have g20 := dget_int end20 iO20
        have v20 := dist_val found_nodup ht'
        have v20t := dist_val found_nodup ht
        rw [et'] at v20
        rw [et] at v20t
        rw [v20] at g20
        refine ⟨.ref nd, rfl, nd, rfl, .inr ⟨_, .inl end20⟩, .ref o, rfl, _, g20, _, _, rfl, alike_flat (.inr ⟨_, rfl⟩), fun H21 x21 => ⟨true, rfl, iteF ?_⟩⟩
        have W21 := W20.near x21
        have end21 := x21.dT end20
        have iO21 := iO20.ext x21
        have ib21 := ib20.ext x21
        have ih21 := ih20.ext x21
        have g21 := dget_int end21 iO21
        rw [v20t] at g21
        clear W18 end18 ih18 iO W19 end19 ih19 iO19 ib W20 end20 iO20 ib20 ih20 g20 v20 x19 x20 x21
        refine ⟨.ref b, rfl, false, rfl, iteF ?_⟩
        refine ⟨.ref o, rfl, .ref nd, rfl, nd, _, rfl, g21, false, rfl, iteF ?_⟩
        have ib22 : IntT H21 o t.1 := by rw [et]; exact iO21
        have tlen : t.2.length ≤ 3125 := by rw [found_eq] at ht; exact st_len_le ht
        refine ⟨.ref b, rfl, .ref ha, rfl, .ref lo, rfl, .ref o, rfl, .ref nd, rfl, .ref o, rfl, nd, _, rfl, g21, ha, lo, o, n, t.2.length, h, L, t, rfl, W21.hab, hI, W21.lay, pL, h5, ib22, found_least ht, tlen, fun H22 b2 x22 ib2 => ?_⟩
        have W22 := W21.near x22
        have iO22 := iO21.ext x22
        have end22 := x22.dT end21
        have ih22 := ih21.ext x22
        refine ⟨_, _, (ib21.ext x22).dp, ib2.dp, shaped_tup _, shaped_tup _, _, rfl, ?_⟩
        rw [eqv_tup, decide_eq_true rfl]
        refine iteF ⟨.ref lo, rfl, .ref ha, rfl, .ref o, rfl, ha, o, n, h, O, rfl, W22.hab, hI, iO22, pO, h5, fun H23 d2 x23 _ ed2 => ?_⟩
        have g23 := dget_int ed2 (W22.lay.ext x23)
        have back : L ∈ (found h O).map (·.1) := found_back hI h5 pL (by rw [← et]; exact List.mem_map.mpr ⟨t, ht, rfl⟩)
        have v23 := val_some (x := L) (dist_keys (found h O))
        rw [decide_eq_true back] at v23
        refine ⟨d2, _, rfl, g23, _, rfl, ?_⟩
        rw [v23]
        exact iteF ⟨_, _, _, _, rfl, W22.near x23, x23.dT end22, ih22.ext x23⟩
      · have W19 := W18.near x19
        have end19 := x19.dT end18
        have ih19 := ih18.ext x19
        have iO19 := iO.ext x19
        refine ⟨.ref ha, rfl, .ref lo, rfl, .ref o, rfl, ha, lo, o, n, h, L, O, rfl, W19.hab, hI, W19.lay, pL, iO19, pO, h2, h5, W19.tab, fun H20 t' x20 ht' et' => absurd (List.mem_map.mpr ⟨t', ht', et'⟩) hno, fun H20 x20 _ => ?_⟩
        have W20 := W19.near x20
        have end20 := x20.dT end19
        have iO20 := iO19.ext x20
        have ih20 := ih19.ext x20
        have g20 := dget_int end20 iO20
        rw [val_none (dist_keys _) hno] at g20
        refine ⟨.ref nd, rfl, nd, rfl, .inr ⟨_, .inl end20⟩, .ref o, rfl, _, g20, _, _, rfl, alike_flat (.inl rfl), fun H21 x21 => ⟨true, rfl, iteF ?_⟩⟩
        have g21 := dget_int (x21.dT end20) (iO20.ext x21)
        rw [val_none (dist_keys _) hno] at g21
        refine ⟨.non, rfl, true, rfl, iteT ⟨.ref o, rfl, .ref nd, rfl, nd, _, rfl, g21, false, rfl, iteF ?_⟩⟩
        exact ⟨_, _, _, _, rfl, W20.near x21, (x21.dT end20), ih20.ext x21⟩
    rintro σ H16 ⟨z5, z8, z10, z11, rfl, W16, end16, ih16⟩
    clear W15 end15 ih15
    -- whole
    refine ⟨.ref ha, rfl, .int n, rfl, n, rfl, .of_le (by omega) (by omega) (by omega) (by omega), fun l2 nl2 => ?_⟩
    have x17 : Ext none H16 (upd H16 l2 (.tup (rgV 0 n))) := .new nl2
    have W17 := W16.near x17
    have end17 := x17.dT end16
    have il2 : IntT (upd H16 l2 (.tup (rgV 0 n))) l2 (idL n) := by unfold IntT; rw [upd_same, idL_rg]
    generalize upd H16 l2 (.tup (rgV 0 n)) = H17 at *
    refine ⟨ha, l2, n, h, idL n, rfl, W17.hab, hI, il2, idL_perm n, h5, fun H18 wd x18 _ ew => ?_⟩
    have W18 := W17.near x18
    have end18 := x18.dT end17
    -- [farthest, order]
    refine ⟨.ref ha, rfl, .ref lo, rfl, ha, lo, n, h, L, rfl, W18.hab, hI, W18.lay, pL, h2, h5, W18.tab, fun H19 mx x19 hin hmax => ?_⟩
    have W19 := W18.near x19
    refine ⟨.ref ha, rfl, ha, n, h, rfl, W19.hab, hI, h2, h5, W19.tab, fun H20 x20 => ⟨two, fun p1 np1 => ?_⟩⟩
    have y20 := x19.trans x20
    have x21 : Ext none H20 (upd H20 p1 (.lst [.int mx, .int ((found h (idL n)).length : Nat)])) := .new np1
    have end21 := x21.dT (y20.dT end18)
    have ew21 := x21.dT (y20.dT ew)
    have e1 : upd H20 p1 (.lst [.int mx, .int ((found h (idL n)).length : Nat)]) p1 = some (.lst [.int mx, .int ((found h (idL n)).length : Nat)]) := upd_same
    generalize upd H20 p1 (.lst [.int mx, .int ((found h (idL n)).length : Nat)]) = H21 at *
    -- [max(..), len(..)]
    refine ⟨.ref nd, rfl, nd, _, rfl, end21, fun p2 np2 => ?_⟩
    have e2 : (dist (found h L)).map (·.2) = ((found h L).map fun t => ((t.2.length : Nat) : Int)).map V.int := by unfold dist; rw [List.map_map, List.map_map]; rfl
    have x22 : Ext none H21 (upd H21 p2 (.lst ((dist (found h L)).map (·.2)))) := .new np2
    have e1b := x22.lst e1
    have ew22 := x22.dT ew21
    have hpos : 0 < ((found h L).map fun t => ((t.2.length : Nat) : Int)).length := by rw [List.length_map]; exact found_pos
    refine ⟨p2, _, rfl, .inl (.inl (by rw [upd_same, e2])), hpos, fun m2 hm2 hmax2 => ?_⟩
    have em : m2 = mx := Int.le_antisymm (hmax m2 hm2) (hmax2 mx hin)
    subst em
    generalize upd H21 p2 (.lst ((dist (found h L)).map (·.2))) = H22 at *
    refine ⟨.ref wd, rfl, wd, _, rfl, .inl ew22, fun p3 bs np3 kb => ⟨p3, _, rfl, .inl (.inl (.inl upd_same)), two, fun p4 np4 => ?_⟩⟩
    have hbl : (bs.map V.ref).length = (found h (idL n)).length := by
      rw [List.length_map]
      have e3 : (dist (found h (idL n))).length = bs.length := kb.length
      rw [← e3]
      unfold dist
      rw [List.length_map]
    have x23 : Ext none H22 _ := (Ext.new (o := .lst (bs.map V.ref)) np3).trans (.new (o := .lst [.int m2, .int ((bs.map V.ref).length : Nat)]) np4)
    refine ⟨_, _, rfl, .inr ⟨_, _, ⟨p1, p4, rfl, rfl, .inr ⟨x23.lst e1b, upd_same⟩⟩, .cons ⟨rfl, .inr ⟨_, rfl⟩⟩ (.cons ⟨by rw [hbl], .inr ⟨_, rfl⟩⟩ .nil), by show (2 : Nat) ≤ 3125; decide⟩, fun H' x' => q H'⟩
end
end K01

set_option Elab.async false
set_option linter.all false
set_option maxRecDepth 100000
set_option maxHeartbeats 2000000
namespace K01
open PySem PySem.Spec PyProof.Rows L2 GxR
/-! ### what the top has written -/
theorem fx_mk {K : PySem.W.Frag} {mg : Str → Option Value} {h : Heap} {x : Str} {st : Stmt} {ps : List Str} {f : Addr} {oc kV dc pm cd ct : Value} {od an : Option Addr} {osl : Array (Option Value)} (X : K.In h) (G : h.Ns mainGlobals mg) (a : PySem.W.nsIn K mainGlobals x = some (some (.ref f)))
    (l : K.lookup f = some ⟨oc, od, .func (PySem.W.fnOf x x (defArgs st) (defBody st) (defScope st) .none kV dc pm an cd ct), osl⟩) (c : PySem.W.codeIn K cd x = true) (k : PySem.W.keepIn K (.ref f) = true)
    (hb : ∀ (kV doc pm : Value) (an : Option Addr) (cdv ct : Value) (us : List Value), us.length = ps.length → bindArgs (PySem.W.fnOf x x (defArgs st) (defBody st) (defScope st) .none kV doc pm an cdv ct) ⟨us, []⟩ = pure (ps.zip us)) :
    ∃ f fd oc od osl, Fx K mg x st ps f fd ∧ PySem.W.nsIn K mainGlobals x = some (some (.ref f)) ∧ K.lookup f = some ⟨oc, od, .func fd, osl⟩ ∧ ∀ us : List Value, us.length = ps.length → bindArgs fd ⟨us, []⟩ = pure (ps.zip us) :=
  have F := fun_mk (st := st) l c k
  ⟨f, _, _, _, _, ⟨F, F.binds hb, PySem.W.mg_of X G a⟩, a, l, fun us hl => hb _ _ _ _ _ _ us hl⟩
theorem code_of {K : PySem.W.Frag} {x : Str} {f c P : Addr} {oc : Value} {od : Option Addr} {osl : Array (Option Value)} {fd : FuncData} (a : PySem.W.nsIn K mainGlobals x = some (some (.ref f))) (l : K.lookup f = some ⟨oc, od, .func fd, osl⟩) (t : PySem.W.tabIn K x = some (c, P)) : fd.code = .ref c := by
  unfold PySem.W.tabIn at t
  rw [a] at t
  simp only [l] at t
  split at t
  · rename_i c' e
    split at t
    · split at t
      · cases t
        exact e
      · cases t
    · cases t
  · cases t
theorem int_at {K : PySem.W.Frag} {mg : Str → Option Value} {h : Heap} {x : Str} {i : Int} {t : Tok} (X : K.In h) (G : h.Ns mainGlobals mg) (a : PySem.W.nsIn K mainGlobals x = some (some (.int i t))) : ∃ t, mg x = some (.int i t) := ⟨t, PySem.W.mg_of X G a⟩
theorem tab_mk {K : PySem.W.Frag} {x : Str} {f c P : Addr} {oc cd p1 : Value} {od p2 : Option Addr} {osl p4 : Array (Option Value)} {fd : FuncData} {vs : Array Value} (a : PySem.W.nsIn K mainGlobals x = some (some (.ref f))) (l : K.lookup f = some ⟨oc, od, .func fd, osl⟩) (hc : fd.code = cd) (e : cd = .ref c)
    (l2 : K.lookup c = some ⟨p1, p2, .fields vs, p4⟩) (ev : (vs[11]? : Option Value) = some (.ref P)) : PySem.W.tabIn K x = some (c, P) := by
  subst e
  unfold PySem.W.tabIn
  simp only [a, l, hc, l2, ev]
def At (K : PySem.W.Frag) (mg : Str → Option Value) (x : Str) (st : Stmt) (ps : List Str) : Prop := ∃ f fd oc od osl, Fx K mg x st ps f fd ∧ PySem.W.nsIn K mainGlobals x = some (some (.ref f)) ∧ K.lookup f = some ⟨oc, od, .func fd, osl⟩ ∧ ∀ us : List Value, us.length = ps.length → bindArgs fd ⟨us, []⟩ = pure (ps.zip us)
structure Pack (K : PySem.W.Frag) (mg : Str → Option Value) (c1 T1 c2 T2 : Addr) : Prop where
  num : At K mg "is_number" sNum ["value", "low", "high"]
  perm : At K mg "is_permutation" sPerm ["value", "many"]
  needH : At K mg "need_habit" sNeedH ["value"]
  needL : At K mg "need_layout" sNeedL ["habit", "value"]
  needS : At K mg "need_shelf" sNeedS ["habit", "layout"]
  needP : At K mg "need_place" sNeedP ["habit", "value"]
  bt : At K mg "behind_touch" sBT ["habit", "layout", "place"]
  bw : At K mg "behind_word" sBW ["habit", "layout", "word"]
  tch : At K mg "touched" sTouched ["habit", "layout", "place"]
  aft : At K mg "after" sAfter ["habit", "layout", "word"]
  wf : At K mg "words_from" sWF ["habit", "layout"]
  cc : At K mg "can_come" sCC ["habit", "layout"]
  wb : At K mg "word_between" sWB ["habit", "one", "other"]
  dst : At K mg "distance" sDist ["habit", "one", "other"]
  far : At K mg "farthest" sFar ["habit", "layout"]
  ord : At K mg "order" sOrder ["habit"]
  ltk : At K mg "_law_taken" sTaken ["_law_row", "_law_many"]
  lor : At K mg "_law_order" sLOrder ["_law_row", "_law_many"]
  lha : At K mg "_law_habit" sLHabit ["_law_row", "_law_places"]
  lal : At K mg "_law_alike" sAlike ["_law_found", "_law_due"]
  lto : At K mg "_law_touch" sLTouch ["_law_habit_here", "_law_layout", "_law_place"]
  lne : At K mg "_law_near" sNear ["_law_habit_here", "_law_layout"]
  lpi : At K mg "_law_pick" sPick ["_law_row", "_law_things"]
  lle : At K mg "_law_least_word" sLeast ["_law_habit_here", "_law_layout", "_law_other", "_law_many"]
  law : At K mg "law" sLaw ["_law_script"]
  tab1 : PySem.W.tabIn K "is_permutation" = some (c1, T1)
  tab2 : PySem.W.tabIn K "after" = some (c2, T2)
  nm : Nm mg
  nc : Nc mg
theorem tb_of {base : Heap} {mg : Str → Option Value} {c T : Addr} (t : LamX.TabB base mg c T) : GxR.TabB base mg c T := ⟨t.code, t.bm, t.gP⟩
theorem ok_all {P : Program} {w : World} {K : PySem.W.Frag} {mg : Str → Option Value} {base : Heap} {c1 T1 c2 T2 fa : Addr} {fdL : FuncData} (A : Pack K mg c1 T1 c2 T2) (t1 : GxR.TabB base mg c1 T1) (t2 : GxR.TabB base mg c2 T2) (BL : Fx K mg "law" sLaw ["_law_script"] fa fdL) :
    FnOk P w K mg base CX0 7 fa fdL ["_law_script"] (spLaw K T1 T2) := by
  have N := A.nm
  have C := A.nc
  obtain ⟨f_num, d_num, _, _, _, B_num, a_num, l_num, _⟩ := A.num
  obtain ⟨f_perm, d_perm, _, _, _, B_perm, a_perm, l_perm, _⟩ := A.perm
  obtain ⟨f_needH, d_needH, _, _, _, B_needH, a_needH, l_needH, _⟩ := A.needH
  obtain ⟨f_needL, d_needL, _, _, _, B_needL, a_needL, l_needL, _⟩ := A.needL
  obtain ⟨f_needS, d_needS, _, _, _, B_needS, a_needS, l_needS, _⟩ := A.needS
  obtain ⟨f_needP, d_needP, _, _, _, B_needP, a_needP, l_needP, _⟩ := A.needP
  obtain ⟨f_bt, d_bt, _, _, _, B_bt, a_bt, l_bt, _⟩ := A.bt
  obtain ⟨f_bw, d_bw, _, _, _, B_bw, a_bw, l_bw, _⟩ := A.bw
  obtain ⟨f_tch, d_tch, _, _, _, B_tch, a_tch, l_tch, _⟩ := A.tch
  obtain ⟨f_aft, d_aft, _, _, _, B_aft, a_aft, l_aft, _⟩ := A.aft
  obtain ⟨f_wf, d_wf, _, _, _, B_wf, a_wf, l_wf, _⟩ := A.wf
  obtain ⟨f_cc, d_cc, _, _, _, B_cc, a_cc, l_cc, _⟩ := A.cc
  obtain ⟨f_wb, d_wb, _, _, _, B_wb, a_wb, l_wb, _⟩ := A.wb
  obtain ⟨f_dst, d_dst, _, _, _, B_dst, a_dst, l_dst, _⟩ := A.dst
  obtain ⟨f_far, d_far, _, _, _, B_far, a_far, l_far, _⟩ := A.far
  obtain ⟨f_ord, d_ord, _, _, _, B_ord, a_ord, l_ord, _⟩ := A.ord
  obtain ⟨f_ltk, d_ltk, _, _, _, B_ltk, a_ltk, l_ltk, _⟩ := A.ltk
  obtain ⟨f_lor, d_lor, _, _, _, B_lor, a_lor, l_lor, _⟩ := A.lor
  obtain ⟨f_lha, d_lha, _, _, _, B_lha, a_lha, l_lha, _⟩ := A.lha
  obtain ⟨f_lal, d_lal, _, _, _, B_lal, a_lal, l_lal, _⟩ := A.lal
  obtain ⟨f_lto, d_lto, _, _, _, B_lto, a_lto, l_lto, _⟩ := A.lto
  obtain ⟨f_lne, d_lne, _, _, _, B_lne, a_lne, l_lne, _⟩ := A.lne
  obtain ⟨f_lpi, d_lpi, _, _, _, B_lpi, a_lpi, l_lpi, _⟩ := A.lpi
  obtain ⟨f_lle, d_lle, _, _, _, B_lle, a_lle, l_lle, _⟩ := A.lle
  have e1 := code_of a_perm l_perm A.tab1
  have e2 := code_of a_aft l_aft A.tab2
  have G_num : FnOk P w K mg base CX0 1 f_num d_num ["value", "low", "high"] spNum := ok_num B_num.F N
  have G_perm : FnOk P w K mg base CX0 2 f_perm d_perm ["value", "many"] (spPerm T1) := ok_perm B_perm.F e1 t1 B_num.F B_num.b B_num.g N
  have G_needH : FnOk P w K mg base CX0 3 f_needH d_needH ["value"] (spNeedH T1) := ok_needH B_needH.F B_perm G_perm N C
  have G_needL : FnOk P w K mg base CX0 3 f_needL d_needL ["habit", "value"] (spNeedL T1) := ok_needL B_needL.F B_perm G_perm N
  have G_needS : FnOk P w K mg base CX0 4 f_needS d_needS ["habit", "layout"] (spNeedS T1) := ok_needS B_needS.F B_needH G_needH B_needL G_needL
  have G_needP : FnOk P w K mg base CX0 2 f_needP d_needP ["habit", "value"] spNeedP := ok_needP B_needP.F B_num G_num N
  have G_bt : FnOk P w K mg base CX0 1 f_bt d_bt pBT spBT := ok_BT B_bt.F N
  have G_bw : FnOk P w K mg base CX0 2 f_bw d_bw ["habit", "layout", "word"] spBW := ok_BW B_bw.F B_bt G_bt
  have G_tch : FnOk P w K mg base CX0 5 f_tch d_tch pBT (spTouched T1) := ok_touched B_tch.F B_needS G_needS B_needP G_needP B_bt G_bt
  have G_aft : FnOk P w K mg base CX0 5 f_aft d_aft ["habit", "layout", "word"] (spAfter T1 T2) := ok_after B_aft.F e2 t2 B_num B_needS G_needS B_bw G_bw N C
  have G_wf : FnOk P w K mg base CX0 2 f_wf d_wf pWF spWF := ok_WF B_wf.F B_bt G_bt N
  have G_cc : FnOk P w K mg base CX0 5 f_cc d_cc pWF (spCC T1) := ok_CC B_cc.F B_needS G_needS B_wf G_wf N
  have G_wb : FnOk P w K mg base CX0 5 f_wb d_wb pHOO (spWB T1) := ok_WB B_wb.F B_needS G_needS B_needL G_needL B_wf G_wf N
  have G_dst : FnOk P w K mg base CX0 6 f_dst d_dst pHOO (spDist T1) := ok_dist B_dst.F B_wb G_wb N
  have G_far : FnOk P w K mg base CX0 5 f_far d_far pWF (spFar T1) := ok_far B_far.F B_needS G_needS B_wf G_wf N
  have G_ord : FnOk P w K mg base CX0 4 f_ord d_ord ["habit"] (spOrd T1) := ok_ord B_ord.F B_needH G_needH B_wf G_wf N
  have G_ltk : FnOk P w K mg base CX0 1 f_ltk d_ltk pRM (spTaken K) := ok_taken B_ltk.F N
  have G_lor : FnOk P w K mg base CX0 2 f_lor d_lor pRM (spLOrder K) := ok_LO B_lor.F B_ltk G_ltk N
  have G_lha : FnOk P w K mg base CX0 3 f_lha d_lha ["_law_row", "_law_places"] (spLHabit K) := ok_LH B_lha.F B_ltk G_ltk B_lor G_lor N
  have G_al0 : FnOk P w K mg base CX0 1 f_lal d_lal pAL (spAlike 0) := ok_alike0 B_lal.F N
  have G_al1 : FnOk P w K mg base CX0 2 f_lal d_lal pAL (spAlike 1) := ok_alikeS B_lal G_al0 N
  have G_al2 : FnOk P w K mg base CX0 3 f_lal d_lal pAL (spAlike 2) := ok_alikeS B_lal G_al1 N
  have G_lto : FnOk P w K mg base CX0 1 f_lto d_lto pLT spBT := ok_LT B_lto.F N
  have G_lne : FnOk P w K mg base CX0 2 f_lne d_lne pLN spNear := ok_near B_lne.F B_lto G_lto N
  have G_lpi : FnOk P w K mg base CX0 2 f_lpi d_lpi ["_law_row", "_law_things"] (spPick K) := ok_pick B_lpi.F B_ltk G_ltk N
  have G_lle : FnOk P w K mg base CX0 2 f_lle d_lle pLW spLeast := ok_least B_lle.F B_lto G_lto N
  exact ok_law BL.F ⟨_, _, B_ltk, G_ltk, _, _, B_lor, G_lor, _, _, B_lha, G_lha, _, _, B_lal, G_al1, G_al2, _, _, B_lto, G_lto, _, _, B_lne, G_lne, _, _, B_lpi, G_lpi, _, _, B_lle, G_lle, _, _, B_tch, G_tch, _, _, B_aft, G_aft, _, _, B_cc, G_cc, _, _, B_wb, G_wb, _, _, B_dst, G_dst, _, _, B_far, G_far, _, _, B_ord, G_ord⟩ N
/-! ### the end -/
theorem law_at {l : PySem.W.OpenLaw} {w : World} {K : PySem.W.Frag} {q : Program} {loose : List Str} {mean : ExcName → Option Value} {mg mb : Str → Option Value} {fa : Addr} {h : Heap} {c1 T1 c2 T2 : Addr} {n : Nat} (X : K.In h) (T : Top q loose mean mg mb h) (hmg : mg "law" = some (.ref fa)) (A : Pack K mg c1 T1 c2 T2)
    (h1 : ((recsOf q).find? (fun e => e.name == ("is_permutation" : Str))).isSome = true) (h2 : ((recsOf q).find? (fun e => e.name == ("after" : Str))).isSome = true) (n1 : K.lookup T1 = none) (n2 : K.lookup T2 = none) : LamX.LawAtS l w K CX0 7 n "_law_script" mg fa h := by
  obtain ⟨fL, dL, _, _, _, BL, _, _, hb⟩ := A.law
  have e := hmg.symm.trans BL.g
  cases e
  obtain ⟨r1, h1⟩ := Option.isSome_iff_exists.mp h1
  obtain ⟨r2, h2⟩ := Option.isSome_iff_exists.mp h2
  obtain ⟨C1, g1⟩ := PySem.W.tab_of T X h1 A.tab1
  obtain ⟨C2, g2⟩ := PySem.W.tab_of T X h2 A.tab2
  refine ⟨dL, [(c1, T1), (c2, T2)], spLaw K T1 T2, ?_, ?_, ?_, fun s u => .of_eq (hb [u] rfl), ?_, ?_⟩
  · intro p hp
    rcases List.mem_cons.mp hp with e | hp
    · rw [e]; exact g1
    · rw [List.mem_singleton.mp hp]; exact g2
  · intro p hp
    rcases List.mem_cons.mp hp with e | hp
    · rw [e]; exact n1
    · rw [List.mem_singleton.mp hp]; exact n2
  · intro p hp
    rcases List.mem_cons.mp hp with e | hp
    · rw [e]; exact C1
    · rw [List.mem_singleton.mp hp]; exact C2
  · intro H a ns _ _ ht hS
    exact ⟨a, ns, rfl, hS, ⟨_, ht _ (List.mem_cons_self ..), True.intro⟩, ⟨_, ht _ (List.mem_cons_of_mem _ (List.mem_cons_self ..)), True.intro⟩, fun _ => rfl⟩
  · intro base _ _ ht
    exact ok_all A (tb_of (ht _ (List.mem_cons_self ..))) (tb_of (ht _ (List.mem_cons_of_mem _ (List.mem_cons_self ..)))) BL
theorem walk_mine {l : PySem.W.OpenLaw} {n k : Nat} {q : Program} {loose : List Str} {XP : (Str → Option Value) → Heap → Prop} {YP : World → Heap → Prop} {d : DefRec} {K : Params → PySem.W.Frag} {x : Str}
    (hn : l.most = some n) (hn2 : n ≤ sizeLine) (hdf : d.params.defaults = []) (hr : Room k callerA) (hY : ∀ (w : World) (h : Heap), YP w h → (K w.params).In h)
    (F : ∀ (w : World) (loose : List Str) (mean : ExcName → Option Value) (mg mb : Str → Option Value) (fa : Addr) (h : Heap), (K w.params).In h → Top q loose mean mg mb h → mg d.name = some (.ref fa) → LamX.LawAtS l w (K w.params) CX0 k n x mg fa h) :
    PySem.W.WalkO q loose XP YP l.row.toRowW d [] (fun f vs => PySem.call f vs) := by
  refine Att.attach_callB hn hdf fun w s₀ s₁ mg mb fa o pm cd doc a vs ns G Y ho hd hcd hmg hobj hints hlen hbits hg => ?_
  have KX := hY w _ Y
  obtain ⟨fd, cs, sp, hT, nT, C, hb, hsp, hF⟩ := F w _ _ mg mb fa _ KX G.T hmg
  exact LamX.law_callTs KX G.T.g G.T.b G.T.builtins G.T.nolimit hg hT nT C G.T.bmain hobj hints (Nat.le_trans hlen hn2) hr hF hb (fun H hH hS => hsp H a ns hlen hbits hH hS) fun H e s' z => z
end K01

set_option Elab.async false
set_option linter.all false
set_option maxRecDepth 100000
open PySem PySem.W PyProof.Rows
set_option maxHeartbeats 0 in
theorem PySem.Challenge.cw_restlesshelf_k01_whole_shelves_holds : PySem.Challenge.rw_restlesshelf_k01_whole_shelves.Holds := by
  w_on; o_law; k_head; (case hw => w_witness2)
  k_fill
  refine K01.walk_mine (l := PySem.Challenge.rw_restlesshelf_k01_whole_shelves) (n := 63) (k := 7) (x := "_law_script") rfl (by decide) rfl ⟨rfl, by decide, by decide⟩ (fun w h Y => PySem.W.kIn_of Y) ?F
  case F =>
    intro w loose mean mg mb fa h KX T hmg
    refine' K01.law_at KX T hmg ⟨K01.fx_mk KX T.g ?a0 ?l0 ?c0 ?k0 (fun _ _ _ _ _ _ us hl => match us, hl with | [_, _, _], _ => rfl), K01.fx_mk KX T.g ?a1 ?l1 ?c1 ?k1 (fun _ _ _ _ _ _ us hl => match us, hl with | [_, _], _ => rfl), K01.fx_mk KX T.g ?a2 ?l2 ?c2 ?k2 (fun _ _ _ _ _ _ us hl => match us, hl with | [_], _ => rfl), K01.fx_mk KX T.g ?a3 ?l3 ?c3 ?k3 (fun _ _ _ _ _ _ us hl => match us, hl with | [_, _], _ => rfl), K01.fx_mk KX T.g ?a4 ?l4 ?c4 ?k4 (fun _ _ _ _ _ _ us hl => match us, hl with | [_, _], _ => rfl), K01.fx_mk KX T.g ?a5 ?l5 ?c5 ?k5 (fun _ _ _ _ _ _ us hl => match us, hl with | [_, _], _ => rfl), K01.fx_mk KX T.g ?a6 ?l6 ?c6 ?k6 (fun _ _ _ _ _ _ us hl => match us, hl with | [_, _, _], _ => rfl), K01.fx_mk KX T.g ?a7 ?l7 ?c7 ?k7 (fun _ _ _ _ _ _ us hl => match us, hl with | [_, _, _], _ => rfl), K01.fx_mk KX T.g ?a8 ?l8 ?c8 ?k8 (fun _ _ _ _ _ _ us hl => match us, hl with | [_, _, _], _ => rfl), K01.fx_mk KX T.g ?a9 ?l9 ?c9 ?k9 (fun _ _ _ _ _ _ us hl => match us, hl with | [_, _, _], _ => rfl), K01.fx_mk KX T.g ?a10 ?l10 ?c10 ?k10 (fun _ _ _ _ _ _ us hl => match us, hl with | [_, _], _ => rfl), K01.fx_mk KX T.g ?a11 ?l11 ?c11 ?k11 (fun _ _ _ _ _ _ us hl => match us, hl with | [_, _], _ => rfl), K01.fx_mk KX T.g ?a12 ?l12 ?c12 ?k12 (fun _ _ _ _ _ _ us hl => match us, hl with | [_, _, _], _ => rfl), K01.fx_mk KX T.g ?a13 ?l13 ?c13 ?k13 (fun _ _ _ _ _ _ us hl => match us, hl with | [_, _, _], _ => rfl), K01.fx_mk KX T.g ?a14 ?l14 ?c14 ?k14 (fun _ _ _ _ _ _ us hl => match us, hl with | [_, _], _ => rfl), K01.fx_mk KX T.g ?a15 ?l15 ?c15 ?k15 (fun _ _ _ _ _ _ us hl => match us, hl with | [_], _ => rfl), K01.fx_mk KX T.g ?a16 ?l16 ?c16 ?k16 (fun _ _ _ _ _ _ us hl => match us, hl with | [_, _], _ => rfl), K01.fx_mk KX T.g ?a17 ?l17 ?c17 ?k17 (fun _ _ _ _ _ _ us hl => match us, hl with | [_, _], _ => rfl), K01.fx_mk KX T.g ?a18 ?l18 ?c18 ?k18 (fun _ _ _ _ _ _ us hl => match us, hl with | [_, _], _ => rfl), K01.fx_mk KX T.g ?a19 ?l19 ?c19 ?k19 (fun _ _ _ _ _ _ us hl => match us, hl with | [_, _], _ => rfl), K01.fx_mk KX T.g ?a20 ?l20 ?c20 ?k20 (fun _ _ _ _ _ _ us hl => match us, hl with | [_, _, _], _ => rfl), K01.fx_mk KX T.g ?a21 ?l21 ?c21 ?k21 (fun _ _ _ _ _ _ us hl => match us, hl with | [_, _], _ => rfl), K01.fx_mk KX T.g ?a22 ?l22 ?c22 ?k22 (fun _ _ _ _ _ _ us hl => match us, hl with | [_, _], _ => rfl), K01.fx_mk KX T.g ?a23 ?l23 ?c23 ?k23 (fun _ _ _ _ _ _ us hl => match us, hl with | [_, _, _, _], _ => rfl), K01.fx_mk KX T.g ?a24 ?l24 ?c24 ?k24 (fun _ _ _ _ _ _ us hl => match us, hl with | [_], _ => rfl), K01.tab_mk ?ta1 ?tl1 ?tc1 ?te1 ?tk1 ?tv1, K01.tab_mk ?ta2 ?tl2 ?tc2 ?te2 ?tk2 ?tv2, ⟨PySem.W.mg_none_of KX T.g ?z0, PySem.W.mg_none_of KX T.g ?z1, PySem.W.mg_none_of KX T.g ?z2, PySem.W.mg_none_of KX T.g ?z3, PySem.W.mg_none_of KX T.g ?z4, PySem.W.mg_none_of KX T.g ?z5, PySem.W.mg_none_of KX T.g ?z6, PySem.W.mg_none_of KX T.g ?z7, PySem.W.mg_none_of KX T.g ?z8, PySem.W.mg_none_of KX T.g ?z9, PySem.W.mg_none_of KX T.g ?z10, PySem.W.mg_none_of KX T.g ?z11, PySem.W.mg_none_of KX T.g ?z12⟩, ⟨K01.int_at KX T.g ?m0, K01.int_at KX T.g ?m1, K01.int_at KX T.g ?m2⟩⟩ ?h1 ?h2 ?n1 ?n2
    (case a0 => k_is)
    (case l0 => k_is)
    (case c0 => k_is)
    (case k0 => k_is)
    (case a1 => k_is)
    (case l1 => k_is)
    (case c1 => k_is)
    (case k1 => k_is)
    (case a2 => k_is)
    (case l2 => k_is)
    (case c2 => k_is)
    (case k2 => k_is)
    (case a3 => k_is)
    (case l3 => k_is)
    (case c3 => k_is)
    (case k3 => k_is)
    (case a4 => k_is)
    (case l4 => k_is)
    (case c4 => k_is)
    (case k4 => k_is)
    (case a5 => k_is)
    (case l5 => k_is)
    (case c5 => k_is)
    (case k5 => k_is)
    (case a6 => k_is)
    (case l6 => k_is)
    (case c6 => k_is)
    (case k6 => k_is)
    (case a7 => k_is)
    (case l7 => k_is)
    (case c7 => k_is)
    (case k7 => k_is)
    (case a8 => k_is)
    (case l8 => k_is)
    (case c8 => k_is)
    (case k8 => k_is)
    (case a9 => k_is)
    (case l9 => k_is)
    (case c9 => k_is)
    (case k9 => k_is)
    (case a10 => k_is)
    (case l10 => k_is)
    (case c10 => k_is)
    (case k10 => k_is)
    (case a11 => k_is)
    (case l11 => k_is)
    (case c11 => k_is)
    (case k11 => k_is)
    (case a12 => k_is)
    (case l12 => k_is)
    (case c12 => k_is)
    (case k12 => k_is)
    (case a13 => k_is)
    (case l13 => k_is)
    (case c13 => k_is)
    (case k13 => k_is)
    (case a14 => k_is)
    (case l14 => k_is)
    (case c14 => k_is)
    (case k14 => k_is)
    (case a15 => k_is)
    (case l15 => k_is)
    (case c15 => k_is)
    (case k15 => k_is)
    (case a16 => k_is)
    (case l16 => k_is)
    (case c16 => k_is)
    (case k16 => k_is)
    (case a17 => k_is)
    (case l17 => k_is)
    (case c17 => k_is)
    (case k17 => k_is)
    (case a18 => k_is)
    (case l18 => k_is)
    (case c18 => k_is)
    (case k18 => k_is)
    (case a19 => k_is)
    (case l19 => k_is)
    (case c19 => k_is)
    (case k19 => k_is)
    (case a20 => k_is)
    (case l20 => k_is)
    (case c20 => k_is)
    (case k20 => k_is)
    (case a21 => k_is)
    (case l21 => k_is)
    (case c21 => k_is)
    (case k21 => k_is)
    (case a22 => k_is)
    (case l22 => k_is)
    (case c22 => k_is)
    (case k22 => k_is)
    (case a23 => k_is)
    (case l23 => k_is)
    (case c23 => k_is)
    (case k23 => k_is)
    (case a24 => k_is)
    (case l24 => k_is)
    (case c24 => k_is)
    (case k24 => k_is)
    (case z0 => k_is)
    (case z1 => k_is)
    (case z2 => k_is)
    (case z3 => k_is)
    (case z4 => k_is)
    (case z5 => k_is)
    (case z6 => k_is)
    (case z7 => k_is)
    (case z8 => k_is)
    (case z9 => k_is)
    (case z10 => k_is)
    (case z11 => k_is)
    (case z12 => k_is)
    (case m0 => k_is)
    (case m1 => k_is)
    (case m2 => k_is)
    (case ta1 => k_is)
    (case tl1 => k_is)
    (case tc1 => exact rfl)
    (case te1 => exact rfl)
    (case tk1 => k_is)
    (case tv1 => exact rfl)
    (case ta2 => k_is)
    (case tl2 => k_is)
    (case tc2 => exact rfl)
    (case te2 => exact rfl)
    (case tk2 => k_is)
    (case tv2 => exact rfl)
    (case h1 => kernel_rfl)
    (case h2 => kernel_rfl)
    (case n1 => kernel_rfl)
    (case n2 => kernel_rfl)
