import PyProof.Rows.All
import Wide.All
import OpenK.AllK
import Wide.FinOn
import PyProof.StrWalks
import PyProof.Rows.SetFrom
import HandS.Base
import HandS.Call
import HandS.List
import HandS.Set
import HandS.SetFor
import HandS.More
import HandS.Conv
import HandS.SortRule
import HandS.SortInts
import PyProof.EnumMake
import PyProof.Draws
import KE.GoesMore
import KE.KDictZip
import HandS.Comp
import HandS.Dict
import HandS.Iter
import HandS.Walk
import HandS.Zip
import PyProof.ListStr
import PyProof.StrBlock2
import PyProof.ReprRoads
import PyProof.Rows.RowBridgeK
import KE.DataMinMax
import KE.SortData
import HandS.Replace
import HandS.Words
import HandS.ForMost
import HandS.IsInst
import HandS.TupAny
import HandS.TupLe
import HandS.DictTup
import HandS.Flow
import HandS.RevRange
import PySem.Challenge.RW_draftward_k03_whole_training_by_own_coun
import HandS.Style
import PyProof.Rows.RegFStrParts
section
set_option autoImplicit false
/-! The plain law: tokens, pieces, the pair that is merged next, training. No program in sight. -/
namespace TK
abbrev P2 := Nat × Nat
/-- a pair is merged, from left to right -/
def merge (p : P2) (t : Nat) : List Nat → List Nat
  | x :: y :: r => if x = p.1 ∧ y = p.2 then t :: merge p t r else x :: merge p t (y :: r)
  | [x] => [x]
  | [] => []
theorem merge_hit {p : P2} {t x y : Nat} {r : List Nat} (h : x = p.1 ∧ y = p.2) : merge p t (x :: y :: r) = t :: merge p t r := by
  rw [merge, if_pos h]
theorem merge_miss {p : P2} {t x y : Nat} {r : List Nat} (h : ¬ (x = p.1 ∧ y = p.2)) : merge p t (x :: y :: r) = x :: merge p t (y :: r) := by
  rw [merge, if_neg h]
theorem merge_len (p : P2) (t : Nat) : ∀ l : List Nat, (merge p t l).length ≤ l.length
  | [] => Nat.le_refl _
  | [_] => Nat.le_refl _
  | x :: y :: r => by
    by_cases h : x = p.1 ∧ y = p.2
    · rw [merge_hit h]
      have := merge_len p t r
      simp only [List.length_cons]; omega
    · rw [merge_miss h]
      have := merge_len p t (y :: r)
      simp only [List.length_cons] at this ⊢; omega
theorem merge_mem {p : P2} {t z : Nat} : ∀ {l : List Nat}, z ∈ merge p t l → z = t ∨ z ∈ l
  | [], h => by simp [merge] at h
  | [x], h => .inr h
  | x :: y :: r, h => by
    by_cases c : x = p.1 ∧ y = p.2
    · rw [merge_hit c] at h
      rcases List.mem_cons.mp h with e | e
      · exact .inl e
      · rcases merge_mem e with e | e
        · exact .inl e
        · exact .inr (List.mem_cons_of_mem _ (List.mem_cons_of_mem _ e))
    · rw [merge_miss c] at h
      rcases List.mem_cons.mp h with e | e
      · exact .inr (e ▸ List.mem_cons_self)
      · rcases merge_mem e with e | e
        · exact .inl e
        · exact .inr (List.mem_cons_of_mem _ e)

/-! ### pieces -/
def piece (f : List (List Nat)) (t : Nat) : List Nat := f.getD t []
def joined (f : List (List Nat)) (m : P2) : List Nat := piece f m.1 ++ piece f m.2
def pcs0 (ls : List Nat) : List (List Nat) := [] :: ls.map fun c => [c]
def pcs (ls : List Nat) (ms : List P2) : List (List Nat) := ms.foldl (fun f m => f ++ [joined f m]) (pcs0 ls)
theorem pcs_nil (ls : List Nat) : pcs ls [] = pcs0 ls := rfl
theorem pcs_snoc (ls : List Nat) (ms : List P2) (m : P2) : pcs ls (ms ++ [m]) = pcs ls ms ++ [joined (pcs ls ms) m] := by
  unfold pcs
  rw [List.foldl_append]
  rfl
theorem snoc_ind {α : Type} {P : List α → Prop} (h0 : P []) (h1 : ∀ l a, P l → P (l ++ [a])) : ∀ l, P l := by
  intro l
  have key : ∀ r : List α, P r.reverse := by
    intro r
    induction r with
    | nil => exact h0
    | cons a r ih => rw [List.reverse_cons]; exact h1 _ _ ih
  have := key l.reverse
  rwa [List.reverse_reverse] at this
theorem pcs_len (ls : List Nat) : ∀ ms : List P2, (pcs ls ms).length = 1 + ls.length + ms.length := by
  refine snoc_ind ?_ ?_
  · simp [pcs_nil, pcs0]; omega
  · intro l a ih
    rw [pcs_snoc, List.length_append, ih, List.length_append]
    simp; omega
theorem pcs_pre (ls : List Nat) (ms ns : List P2) : ∃ r, pcs ls (ms ++ ns) = pcs ls ms ++ r := by
  revert ns
  refine snoc_ind ⟨[], by simp⟩ ?_
  rintro l a ⟨r, h⟩
  exact ⟨r ++ [joined (pcs ls (ms ++ l)) a], by rw [← List.append_assoc, pcs_snoc, h, List.append_assoc]⟩
theorem piece_app {f r : List (List Nat)} {t : Nat} (h : t < f.length) : piece (f ++ r) t = piece f t := by
  unfold piece
  rw [List.getD_eq_getElem?_getD, List.getD_eq_getElem?_getD, List.getElem?_append_left h]
theorem piece_new {f : List (List Nat)} {x : List Nat} : piece (f ++ [x]) f.length = x := by
  unfold piece
  rw [List.getD_eq_getElem?_getD, List.getElem?_append_right (Nat.le_refl _)]
  simp
theorem piece_letter {ls : List Nat} (ms : List P2) {k : Nat} (h : k < ls.length) : piece (pcs ls ms) (1 + k) = [ls[k]] := by
  obtain ⟨r, e⟩ := pcs_pre ls [] ms
  rw [List.nil_append] at e
  have hk : 1 + k < (pcs ls []).length := by rw [pcs_len]; simp; omega
  rw [e, piece_app hk, pcs_nil, pcs0]
  unfold piece
  rw [Nat.add_comm]
  simp [List.getD_eq_getElem?_getD, h]
theorem piece_zero (ls : List Nat) (ms : List P2) : piece (pcs ls ms) 0 = [] := by
  obtain ⟨r, e⟩ := pcs_pre ls [] ms
  rw [List.nil_append] at e
  have hk : 0 < (pcs ls []).length := by rw [pcs_len]; omega
  rw [e, piece_app hk]
  rfl
/-- the i-th merge stands for two tokens ahead of its own -/
def MsOk (L : Nat) (ms : List P2) : Prop := ∀ i m, ms[i]? = some m → (1 ≤ m.1 ∧ m.1 < 1 + L + i) ∧ 1 ≤ m.2 ∧ m.2 < 1 + L + i
theorem MsOk.snoc {L : Nat} {ms : List P2} {m : P2} (h : MsOk L ms) (h1 : 1 ≤ m.1 ∧ m.1 < 1 + L + ms.length) (h2 : 1 ≤ m.2 ∧ m.2 < 1 + L + ms.length) : MsOk L (ms ++ [m]) := by
  intro i x e
  by_cases hi : i < ms.length
  · rw [List.getElem?_append_left hi] at e
    exact h i x e
  · rw [List.getElem?_append_right (by omega)] at e
    have hz : i = ms.length := by
      have := (List.getElem?_eq_some_iff.mp e).1
      simp at this; omega
    subst hz
    simp at e
    subst e
    exact ⟨h1, h2⟩
theorem MsOk.take {L : Nat} {ms : List P2} (h : MsOk L ms) (k : Nat) : MsOk L (ms.take k) := by
  intro i m e
  rw [List.getElem?_take] at e
  split at e
  · exact h i m e
  · cases e
theorem piece_merge {ls : List Nat} {ms : List P2} (ok : MsOk ls.length ms) {i : Nat} {m : P2} (e : ms[i]? = some m) : piece (pcs ls ms) (1 + ls.length + i) = joined (pcs ls ms) m := by
  obtain ⟨hi, em⟩ := List.getElem?_eq_some_iff.mp e
  have split : ms = ms.take i ++ ([m] ++ ms.drop (i + 1)) := by
    rw [← em, List.singleton_append, List.getElem_cons_drop, List.take_append_drop]
  have hl : (pcs ls (ms.take i)).length = 1 + ls.length + i := by rw [pcs_len, List.length_take]; omega
  obtain ⟨r, er⟩ := pcs_pre ls (ms.take i ++ [m]) (ms.drop (i + 1))
  rw [List.append_assoc, ← split, pcs_snoc] at er
  obtain ⟨⟨_, h1⟩, _, h2⟩ := ok i m e
  have g1 : ∀ t, t < 1 + ls.length + i → piece (pcs ls ms) t = piece (pcs ls (ms.take i)) t := fun t ht => by
    rw [er, piece_app (by rw [List.length_append, hl]; simp; omega), piece_app (by rw [hl]; exact ht)]
  have g2 : piece (pcs ls ms) (1 + ls.length + i) = joined (pcs ls (ms.take i)) m := by
    rw [er, piece_app (by rw [List.length_append, hl]; simp), ← hl, piece_new]
  rw [g2]
  unfold joined
  rw [g1 _ h1, g1 _ h2]
theorem pcs_short (ls : List Nat) : ∀ ms : List P2, ∀ x ∈ pcs ls ms, x.length ≤ 2 ^ ms.length := by
  refine snoc_ind ?_ ?_
  · intro x hx
    rw [pcs_nil, pcs0] at hx
    rcases List.mem_cons.mp hx with e | e
    · subst e; simp
    · obtain ⟨c, _, e⟩ := List.mem_map.mp e
      subst e; simp
  · intro l a ih x hx
    have two : ∀ t, (piece (pcs ls l) t).length ≤ 2 ^ l.length := fun t => by
      unfold piece
      rw [List.getD_eq_getElem?_getD]
      cases h : (pcs ls l)[t]? with
      | none => simp
      | some y => exact ih y (List.mem_of_getElem? h)
    rw [pcs_snoc] at hx
    rw [List.length_append, List.length_singleton, Nat.pow_succ]
    rcases List.mem_append.mp hx with h | h
    · have := ih x h; omega
    · have e := List.mem_singleton.mp h
      subst e
      unfold joined
      rw [List.length_append]
      have := two a.1
      have := two a.2
      omega
theorem piece_short (ls : List Nat) {ms : List P2} (h : ms.length ≤ 10) (t : Nat) : (piece (pcs ls ms) t).length ≤ 1024 := by
  unfold piece
  rw [List.getD_eq_getElem?_getD]
  cases e : (pcs ls ms)[t]? with
  | none => simp
  | some y =>
    have h1 := pcs_short ls ms y (List.mem_of_getElem? e)
    have h2 : 2 ^ ms.length ≤ 2 ^ 10 := Nat.pow_le_pow_right (by decide) h
    show y.length ≤ 1024
    have h3 : (2 : Nat) ^ 10 = 1024 := by decide
    omega

/-! ### texts to tokens -/
def letterTok (ls : List Nat) (c : Nat) : Nat := 1 + ls.idxOf c
def row0 (ls text : List Nat) : List Nat := text.map (letterTok ls)
def mergesFrom (b : Nat) : List P2 → List Nat → List Nat
  | [], r => r
  | m :: ms, r => mergesFrom (b + 1) ms (merge m b r)
theorem mergesFrom_snoc (ms : List P2) : ∀ (b : Nat) (m : P2) (r : List Nat), mergesFrom b (ms ++ [m]) r = merge m (b + ms.length) (mergesFrom b ms r) := by
  induction ms with
  | nil => intro b m r; rfl
  | cons a ms ih =>
    intro b m r
    show mergesFrom (b + 1) (ms ++ [m]) (merge a b r) = _
    rw [ih, List.length_cons, show b + 1 + ms.length = b + (ms.length + 1) by omega]
    rfl
theorem mergesFrom_take {ms : List P2} {i : Nat} {m : P2} (e : ms[i]? = some m) (b : Nat) (r : List Nat) : mergesFrom b (ms.take (i + 1)) r = merge m (b + i) (mergesFrom b (ms.take i) r) := by
  have hi := (List.getElem?_eq_some_iff.mp e).1
  rw [List.take_add_one, e]
  show mergesFrom b (ms.take i ++ [m]) r = _
  rw [mergesFrom_snoc, List.length_take, Nat.min_eq_left (by omega)]
def tokens (ls : List Nat) (ms : List P2) (text : List Nat) : List Nat := mergesFrom (1 + ls.length) ms (row0 ls text)
theorem mergesFrom_len (ms : List P2) : ∀ (b : Nat) (r : List Nat), (mergesFrom b ms r).length ≤ r.length := by
  induction ms with
  | nil => intro b r; exact Nat.le_refl _
  | cons m ms ih => intro b r; exact Nat.le_trans (ih (b + 1) (merge m b r)) (merge_len m b r)
theorem tokens_len (ls : List Nat) (ms : List P2) (text : List Nat) : (tokens ls ms text).length ≤ text.length := by
  have := mergesFrom_len ms (1 + ls.length) (row0 ls text)
  unfold tokens
  unfold row0 at this ⊢
  rwa [List.length_map] at this
/-- all tokens from 1 to below n -/
def Below (n : Nat) (r : List Nat) : Prop := ∀ t ∈ r, 1 ≤ t ∧ t < n
theorem Below.mono {n m : Nat} {r : List Nat} (h : Below n r) (l : n ≤ m) : Below m r := fun t ht => ⟨(h t ht).1, Nat.lt_of_lt_of_le (h t ht).2 l⟩
theorem Below.merge {n : Nat} {r : List Nat} {p : P2} (h : Below n r) (hn : 1 ≤ n) : Below (n + 1) (merge p n r) := fun t ht => by
  rcases merge_mem ht with e | e
  · subst e; exact ⟨hn, Nat.lt_succ_self _⟩
  · exact (h.mono (Nat.le_succ _)) t e
theorem row0_below {ls text : List Nat} (h : ∀ c ∈ text, c ∈ ls) : Below (1 + ls.length) (row0 ls text) := fun t ht => by
  obtain ⟨c, hc, e⟩ := List.mem_map.mp ht
  subst e
  have := List.idxOf_lt_length_of_mem (h c hc)
  unfold letterTok
  omega
theorem mergesFrom_below (ms : List P2) : ∀ (b : Nat) (r : List Nat), 1 ≤ b → Below b r → Below (b + ms.length) (mergesFrom b ms r) := by
  induction ms with
  | nil => intro b r _ h; exact h
  | cons m ms ih =>
    intro b r hb h
    have := ih (b + 1) (merge m b r) (by omega) (h.merge hb)
    rw [List.length_cons, show b + (ms.length + 1) = b + 1 + ms.length by omega]
    exact this
theorem tokens_below {ls text : List Nat} (ms : List P2) (h : ∀ c ∈ text, c ∈ ls) : Below (1 + ls.length + ms.length) (tokens ls ms text) :=
  mergesFrom_below ms _ _ (by omega) (row0_below h)
/-- the text of tokens -/
def textOf (f : List (List Nat)) (r : List Nat) : List Nat := (r.map (piece f)).flatten
theorem textOf_merge {f : List (List Nat)} {p : P2} {t : Nat} (h : piece f t = joined f p) : ∀ r, textOf f (merge p t r) = textOf f r
  | [] => rfl
  | [_] => rfl
  | x :: y :: r => by
    by_cases c : x = p.1 ∧ y = p.2
    · rw [merge_hit c]
      show piece f t ++ textOf f (merge p t r) = piece f x ++ (piece f y ++ textOf f r)
      rw [textOf_merge h r, h, c.1, c.2, joined, List.append_assoc]
    · rw [merge_miss c]
      show piece f x ++ textOf f (merge p t (y :: r)) = piece f x ++ textOf f (y :: r)
      rw [textOf_merge h (y :: r)]
theorem textOf_merges {f : List (List Nat)} (ms : List P2) : ∀ (b : Nat) (r : List Nat), (∀ i m, ms[i]? = some m → piece f (b + i) = joined f m) → textOf f (mergesFrom b ms r) = textOf f r := by
  induction ms with
  | nil => intro b r _; rfl
  | cons m ms ih =>
    intro b r h
    show textOf f (mergesFrom (b + 1) ms (merge m b r)) = _
    rw [ih (b + 1) _ fun i x e => by
      have := h (i + 1) x (by simpa using e)
      rwa [show b + 1 + i = b + (i + 1) by omega]]
    exact textOf_merge (by simpa using h 0 m rfl) r
theorem textOf_row0 {ls : List Nat} (ms : List P2) : ∀ {text : List Nat}, (∀ c ∈ text, c ∈ ls) → textOf (pcs ls ms) (row0 ls text) = text
  | [], _ => rfl
  | c :: r, h => by
    have hc : c ∈ ls := h c List.mem_cons_self
    have hlt := List.idxOf_lt_length_of_mem hc
    show piece (pcs ls ms) (letterTok ls c) ++ textOf (pcs ls ms) (row0 ls r) = c :: r
    rw [textOf_row0 ms fun x hx => h x (List.mem_cons_of_mem _ hx)]
    unfold letterTok
    rw [piece_letter ms hlt]
    simp
theorem text_back {ls text : List Nat} {ms : List P2} (ok : MsOk ls.length ms) (h : ∀ c ∈ text, c ∈ ls) : textOf (pcs ls ms) (tokens ls ms text) = text := by
  unfold tokens
  rw [textOf_merges ms _ _ fun i m e => piece_merge ok e, textOf_row0 ms h]

/-! ### the pair that is merged next -/
def adj (r : List Nat) : List P2 := r.zip (r.drop 1)
def allAdj (rows : List (List Nat)) : List P2 := rows.flatMap adj
def fresh (f : List (List Nat)) (p : P2) : Prop := joined f p ∉ f
instance (f : List (List Nat)) (p : P2) : Decidable (fresh f p) := by unfold fresh; infer_instance
def pairLe (p q : P2) : Prop := p.1 < q.1 ∨ (p.1 = q.1 ∧ p.2 ≤ q.2)
theorem pairLe_anti {p q : P2} (h1 : pairLe p q) (h2 : pairLe q p) : p = q := by
  obtain ⟨a, b⟩ := p
  obtain ⟨c, d⟩ := q
  unfold pairLe at h1 h2
  simp only at h1 h2
  have : a = c ∧ b = d := by omega
  rw [this.1, this.2]
/-- o is the least of the pairs that stand most often, at least twice, and whose piece is new: by how often (c) -/
def BestC (c : P2 → Nat) (f : List (List Nat)) : Option P2 → Prop
  | none => ∀ q, fresh f q → c q < 2
  | some p => fresh f p ∧ 2 ≤ c p ∧ ∀ q, fresh f q → c q < c p ∨ (c q = c p ∧ pairLe p q)
theorem BestC.one {c : P2 → Nat} {f : List (List Nat)} : ∀ {o o' : Option P2}, BestC c f o → BestC c f o' → o = o'
  | none, none, _, _ => rfl
  | none, some p, h, h' => by have := h p h'.1; have := h'.2.1; omega
  | some p, none, h, h' => by have := h' p h.1; have := h.2.1; omega
  | some p, some q, h, h' => by
    have h1 := h.2.2 q h'.1
    have h2 := h'.2.2 p h.1
    rcases h1 with a | ⟨a, b⟩
    · rcases h2 with a' | ⟨a', b'⟩ <;> omega
    · rcases h2 with a' | ⟨a', b'⟩
      · omega
      · rw [pairLe_anti b b']
noncomputable def bestC (c : P2 → Nat) (f : List (List Nat)) : Option P2 := open Classical in if h : ∃ o, BestC c f o then Classical.choose h else none
theorem bestC_eq {c : P2 → Nat} {f : List (List Nat)} {o : Option P2} (h : BestC c f o) : bestC c f = o := by
  unfold bestC
  rw [dif_pos ⟨o, h⟩]
  exact BestC.one (Classical.choose_spec (⟨o, h⟩ : ∃ o, BestC c f o)) h
def cnt (rows : List (List Nat)) (p : P2) : Nat := (allAdj rows).count p
noncomputable def best (rows : List (List Nat)) (f : List (List Nat)) : Option P2 := bestC (cnt rows) f
theorem mem_adj {r : List Nat} {p : P2} (h : p ∈ adj r) : p.1 ∈ r ∧ p.2 ∈ r := by
  obtain ⟨a, b⟩ := p
  have := List.of_mem_zip h
  exact ⟨this.1, List.mem_of_mem_drop this.2⟩
theorem mem_allAdj {rows : List (List Nat)} {p : P2} (h : p ∈ allAdj rows) : ∃ r ∈ rows, p.1 ∈ r ∧ p.2 ∈ r := by
  obtain ⟨r, hr, hp⟩ := List.mem_flatMap.mp h
  exact ⟨r, hr, mem_adj hp⟩
theorem cnt_pos {rows : List (List Nat)} {p : P2} (h : 1 ≤ cnt rows p) : p ∈ allAdj rows := List.count_pos_iff.mp h
theorem bestC_some {c : P2 → Nat} {f : List (List Nat)} {p : P2} (h : bestC c f = some p) : BestC c f (some p) := by
  unfold bestC at h
  split at h
  · rename_i q
    have := Classical.choose_spec q
    rw [h] at this
    exact this
  · cases h

/-! ### training -/
noncomputable def train (ls : List Nat) : Nat → List P2 → List (List Nat) → List P2
  | 0, ms, _ => ms
  | k + 1, ms, rows => match best rows (pcs ls ms) with
    | none => ms
    | some p => train ls k (ms ++ [p]) (rows.map (merge p (1 + ls.length + ms.length)))
theorem train_zero (ls : List Nat) (ms : List P2) (rows : List (List Nat)) : train ls 0 ms rows = ms := rfl
theorem train_none {ls : List Nat} {ms : List P2} {rows : List (List Nat)} (k : Nat) (h : best rows (pcs ls ms) = none) : train ls k ms rows = ms := by
  cases k with
  | zero => rfl
  | succ k => rw [train, h]
theorem train_some {ls : List Nat} {ms : List P2} {rows : List (List Nat)} {p : P2} (k : Nat) (h : best rows (pcs ls ms) = some p) :
    train ls (k + 1) ms rows = train ls k (ms ++ [p]) (rows.map (merge p (1 + ls.length + ms.length))) := by
  rw [train, h]
theorem train_pre (ls : List Nat) : ∀ (k : Nat) (ms : List P2) (rows : List (List Nat)), ∃ r, train ls k ms rows = ms ++ r ∧ r.length ≤ k
  | 0, ms, rows => ⟨[], by simp [train_zero], Nat.le_refl _⟩
  | k + 1, ms, rows => by
    cases h : best rows (pcs ls ms) with
    | none => exact ⟨[], by simp [train_none _ h], Nat.zero_le _⟩
    | some p =>
      obtain ⟨r, e, l⟩ := train_pre ls k (ms ++ [p]) (rows.map (merge p (1 + ls.length + ms.length)))
      exact ⟨p :: r, by rw [train_some k h, e]; simp, by simp; omega⟩
theorem train_take (ls : List Nat) : ∀ (a b : Nat) (ms : List P2) (rows : List (List Nat)), a ≤ b → train ls a ms rows = (train ls b ms rows).take (ms.length + a)
  | 0, b, ms, rows, _ => by
    obtain ⟨r, e, _⟩ := train_pre ls b ms rows
    rw [e, train_zero]; simp
  | a + 1, b, ms, rows, h => by
    obtain ⟨b, rfl⟩ : ∃ k, b = k + 1 := ⟨b - 1, by omega⟩
    cases hb : best rows (pcs ls ms) with
    | none => rw [train_none _ hb, train_none _ hb, List.take_of_length_le (by omega)]
    | some p =>
      rw [train_some a hb, train_some b hb, train_take ls a b _ _ (by omega), List.length_append, List.length_singleton, show ms.length + 1 + a = ms.length + (a + 1) by omega]
/-- the state of a training -/
structure StOk (ls : List Nat) (ms : List P2) (rows : List (List Nat)) : Prop where
  okm : MsOk ls.length ms
  okd : (pcs ls ms).Nodup
  okr : ∀ r ∈ rows, Below (1 + ls.length + ms.length) r
theorem StOk.next {ls : List Nat} {ms : List P2} {rows : List (List Nat)} (S : StOk ls ms rows) {p : P2} (h : best rows (pcs ls ms) = some p) :
    StOk ls (ms ++ [p]) (rows.map (merge p (1 + ls.length + ms.length))) := by
  obtain ⟨h1, h2, _⟩ := bestC_some h
  obtain ⟨r, hr, p1, p2⟩ := mem_allAdj (cnt_pos (Nat.le_trans (by decide) h2))
  have B := S.okr r hr
  refine ⟨S.okm.snoc (B _ p1) (B _ p2), ?_, fun r' hr' => ?_⟩
  · rw [pcs_snoc]
    refine List.nodup_append.mpr ⟨S.okd, by simp, fun a ha b hb e => ?_⟩
    have := List.mem_singleton.mp hb
    subst this
    subst e
    exact h1 ha
  · obtain ⟨r0, hr0, e⟩ := List.mem_map.mp hr'
    subst e
    rw [List.length_append, List.length_singleton, show 1 + ls.length + (ms.length + 1) = 1 + ls.length + ms.length + 1 by omega]
    exact (S.okr r0 hr0).merge (by omega)
theorem train_ok {ls : List Nat} : ∀ (k : Nat) {ms : List P2} {rows : List (List Nat)}, StOk ls ms rows → MsOk ls.length (train ls k ms rows) ∧ (pcs ls (train ls k ms rows)).Nodup
  | 0, ms, rows, S => ⟨S.okm, S.okd⟩
  | k + 1, ms, rows, S => by
    cases h : best rows (pcs ls ms) with
    | none => rw [train_none _ h]; exact ⟨S.okm, S.okd⟩
    | some p => rw [train_some k h]; exact train_ok k (S.next h)
theorem pcs0_nodup {ls : List Nat} (h : ls.Nodup) : (pcs0 ls).Nodup := by
  unfold pcs0
  refine List.nodup_cons.mpr ⟨fun hm => ?_, ?_⟩
  · obtain ⟨c, _, e⟩ := List.mem_map.mp hm
    cases e
  · unfold List.Nodup
    rw [List.pairwise_map]
    exact h.imp fun {a b} hab e => hab (List.cons.inj e).1
def rows0 (ls : List Nat) (texts : List (List Nat)) : List (List Nat) := texts.map (row0 ls)
theorem StOk.start {ls : List Nat} {texts : List (List Nat)} (hn : ls.Nodup) (h : ∀ t ∈ texts, ∀ c ∈ t, c ∈ ls) : StOk ls [] (rows0 ls texts) := by
  refine ⟨fun i m e => by simp at e, pcs0_nodup hn, fun r hr => ?_⟩
  obtain ⟨t, ht, e⟩ := List.mem_map.mp hr
  subst e
  exact row0_below (h t ht)
noncomputable def trained (ls : List Nat) (texts : List (List Nat)) (n : Nat) : List P2 := train ls (min n 10) [] (rows0 ls texts)
theorem trained_len (ls : List Nat) (texts : List (List Nat)) (n : Nat) : (trained ls texts n).length ≤ 10 := by
  obtain ⟨r, e, l⟩ := train_pre ls (min n 10) [] (rows0 ls texts)
  unfold trained
  rw [e]
  simp
  omega
theorem trained_fewer (ls : List Nat) (texts : List (List Nat)) {k n : Nat} (h : k ≤ min n 10) : trained ls texts k = (trained ls texts n).take k := by
  unfold trained
  have := train_take ls (min k 10) (min n 10) [] (rows0 ls texts) (by omega)
  rw [this, show ([] : List P2).length + min k 10 = k by simp; omega]
/-- the counts alone decide -/
theorem train_cnt {ls : List Nat} : ∀ (k : Nat) {ms : List P2} {rows rows' : List (List Nat)}, rows'.Perm (rows ++ [[]]) → train ls k ms rows' = train ls k ms rows
  | 0, _, _, _, _ => rfl
  | k + 1, ms, rows, rows', hp => by
    have hc : cnt rows' = cnt rows := by
      funext q
      unfold cnt
      have e : (allAdj rows').Perm (allAdj (rows ++ [[]])) := hp.flatMap_right _
      rw [e.count_eq]
      unfold allAdj
      rw [List.flatMap_append]
      simp [adj]
    have hb : best rows' (pcs ls ms) = best rows (pcs ls ms) := by unfold best; rw [hc]
    cases h : best rows (pcs ls ms) with
    | none => rw [train_none _ h, train_none _ (hb.trans h)]
    | some p =>
      rw [train_some k h, train_some k (hb.trans h)]
      refine train_cnt k ?_
      have := hp.map (merge p (1 + ls.length + ms.length))
      rw [List.map_append] at this
      exact this
theorem trained_perm {ls : List Nat} {texts texts' : List (List Nat)} (n : Nat) (h : texts'.Perm (texts ++ [[]])) : trained ls texts' n = trained ls texts n := by
  unfold trained
  refine train_cnt _ ?_
  have := h.map (row0 ls)
  rw [List.map_append] at this
  exact this
end TK
end
section
set_option Elab.async false
set_option linter.all false
set_option maxRecDepth 100000
set_option maxHeartbeats 4000000
/-! Sets of texts, by their members in the table's order: made of what is walked, counted, sorted. -/
namespace TK
open PySem PySem.Spec L2
open PyProof.Rows
/-- the text of an entry -/
def eKey (e : Int × Value) : Str := match e.2 with
  | .str x _ => x
  | _ => Str.empty
def EOk (w : World) (e : Int × Value) : Prop := ∃ x tk, e.2 = Value.str x tk ∧ e.1 = hashStr w x
structure SsAt (w : World) (h : Heap) (a : Addr) (ks : List Str) (o : Obj) (es : Array (Int × Value)) (ep : Nat) (t : SetTable) : Prop where
  gt : h.get? a = some o
  xs : o.ExactSet
  da : o.data = .set es ep t
  el : ∀ e ∈ es.toList, EOk w e
  ke : es.toList.map eKey = ks
  nd : ks.Nodup
  bd : es.size < scanBound
  ft : t.fits es.size = true
  ri : Ris t.place.toList
  le : w.params.followText "set-order" = true ∨ t.led = true
def Ss (w : World) (h : Heap) (a : Addr) (ks : List Str) : Prop := ∃ o es ep t, SsAt w h a ks o es ep t
theorem Ss.at {w : World} {h h' : Heap} {a : Addr} {ks : List Str} (R : Ss w h a ks) (k : ∀ o, h.get? a = some o → h'.get? a = some o) : Ss w h' a ks := by
  obtain ⟨o, es, ep, t, r⟩ := R
  exact ⟨o, es, ep, t, { r with gt := k o r.gt }⟩
section
variable {P : Program} {w : World} {A : Around} {E : Value → Shared → Prop} {s : Shared} {a : Addr} {ks : List Str}
theorem ok_elems {l : List (Int × Value)} (g : ∀ e ∈ l, EOk w e) : ElemsOf (strKind P w) l := by
  intro e he
  obtain ⟨x, tk, h1, h2⟩ := g e he
  refine ⟨⟨x, ?_, h2⟩, by rw [h1] <;> rfl⟩
  rw [h1]
  show Value.isStrOf x (.str x tk) = true
  simp [Value.isStrOf]
theorem ok_is {e : Int × Value} (g : EOk w e) (x : Str) : (strKind P w).is x e.2 = true ↔ eKey e = x := by
  obtain ⟨y, tk, h1, _⟩ := g
  unfold eKey
  rw [h1]
  constructor
  · intro h
    obtain ⟨u, e2⟩ := Value.isStrOf_shape (x := x) (v := Value.str y tk) h
    cases e2
    rfl
  · intro h
    show Value.isStrOf x (.str y tk) = true
    have h' : y = x := h
    subst h'
    simp [Value.isStrOf]
theorem ok_mem {l : List (Int × Value)} (g : ∀ e ∈ l, EOk w e) (x : Str) : x ∈ l.map eKey ↔ ∃ e ∈ l, (strKind P w).is x e.2 = true := by
  rw [List.mem_map]
  exact ⟨fun ⟨e, he, q⟩ => ⟨e, he, (ok_is (g e he) x).2 q⟩, fun ⟨e, he, q⟩ => ⟨e, he, (ok_is (g e he) x).1 q⟩⟩
theorem Ss.len {h : Heap} (R : Ss w h a ks) : ks.length < scanBound := by
  obtain ⟨o, es, ep, t, r⟩ := R
  have := r.bd
  rw [← r.ke, List.length_map, Array.length_toList]
  exact this
/-- the tail of an add: stored, perhaps laid anew -/
theorem ss_tail {g : Bool → Sem Unit} (hg : ∀ (b : Bool) (s1 : Shared) (Q' : Unit → Shared → Prop), Q' () s1 → wpAny (model P w) A (g b) Q' E s1)
    {o : Obj} {es es1 : Array (Int × Value)} {ep : Nat} {t t2 : SetTable} {k1 : List Str} (ho : s.heap.get? a = some o) (hex : o.ExactSet) (hd : o.data = .set es ep t)
    (g1 : ∀ e ∈ es1.toList, EOk w e) (p1 : (es1.toList.map eKey).Perm k1) (n1 : k1.Nodup) (b1 : es1.size < scanBound) (f1 : t2.fits es1.size = true) (r1 : Ris t2.place.toList)
    (l1 : w.params.followText "set-order" = true ∨ t2.led = true) {wasDummy : Bool} {R : Option Bool → Shared → Prop}
    (hR : ∀ h' k2, Heap.SameBut a s.heap h' → Ss w h' a k2 → k2.Perm k1 → R (some true) { s with heap := h' }) :
    wpAny (model P w) A (do
        storeSet a es1 t2
        if (!wasDummy && t2.tooFull) = true then do
            g (relayAll t2 es1 (SetTable.grown es1.size)).2.2
            storeSet a (relayAll t2 es1 (SetTable.grown es1.size)).1 (relayAll t2 es1 (SetTable.grown es1.size)).2.1
            pure (some true)
          else pure (some true)) R E s := by
  refine wpAny_bind (wpAny_storeSet_of ho hd ?_ (fits_of_scanBound b1))
  have q1 := store_at (es' := es1) (t' := t2) ho hd
  have c1 := Heap.SameBut.update s.heap a (Obj.putSet es1 t2)
  split
  · have pz := relayAll_perm t2 es1 (SetTable.grown es1.size)
    have fz := relayAll_fits t2 es1 (SetTable.grown es1.size)
    have rz := relayAll_ris t2 es1 (SetTable.grown es1.size)
    have lz := relayAll_led t2 es1 (SetTable.grown es1.size)
    generalize relayAll t2 es1 (SetTable.grown es1.size) = Z at pz fz rz lz ⊢
    obtain ⟨es2, t3, gv⟩ := Z
    dsimp only at pz fz rz lz ⊢
    have z2 : es2.size = es1.size := by
      have := pz.length_eq
      rwa [Array.length_toList, Array.length_toList] at this
    have b2 : es2.size < scanBound := by omega
    refine wpAny_bind (hg _ _ _ ?_)
    refine wpAny_bind (wpAny_storeSet_of q1 rfl ?_ (fits_of_scanBound b2))
    have q2 := store_at (es' := es2) (t' := t3) q1 rfl
    refine wpAny_pure (hR _ (es2.toList.map eKey) (c1.trans (Heap.SameBut.update _ a _)) ?_ ((pz.map eKey).trans p1))
    exact ⟨_, es2, _, t3, q2, hex, rfl, fun e he => g1 e (pz.mem_iff.mp he), rfl, ((pz.map eKey).trans p1).nodup_iff.mpr n1, b2, fz, rz, l1.imp id fun z => lz.trans z⟩
  · exact wpAny_pure (hR _ (es1.toList.map eKey) c1 ⟨_, es1, _, t2, q1, hex, rfl, g1, rfl, p1.nodup_iff.mpr n1, b1, f1, r1, l1⟩ p1)
/-- a text is added -/
theorem ss_add {x : Str} {tk : Tok} {Q : Bool → Shared → Prop} (R : Ss w s.heap a ks) (room : ks.length + 1 < scanBound)
    (hQ : ∀ h' k2 b, Heap.SameBut a s.heap h' → Ss w h' a k2 → (x ∈ ks → k2 = ks) → (x ∉ ks → k2.Perm (x :: ks)) → Q b { s with heap := h' }) :
    wpAny (model P w) A (setAddHashed a (.str x tk) ((strKind P w).hash x)) Q E s := by
  obtain ⟨o, es, ep, t, r⟩ := R
  obtain ⟨ho, hex, hd, g, ek, nd, hb, hf, hr, hl⟩ := id r
  have hkey : (strKind P w).is x (.str x tk) = true := by
    show Value.isStrOf x (.str x tk) = true
    simp [Value.isStrOf]
  have hsc : (Value.str x tk).scannable = true := rfl
  have hel : ElemsOf (strKind P w) es.toList := ok_elems g
  have hn : es.size = ks.length := by rw [← ek, List.length_map, Array.length_toList]
  unfold setAddHashed setAddHashedIn
  refine wpAny_holding (wpAny_bind (wpAny_setState_of ho hd hf ?_))
  dsimp only
  rw [byScan_of hsc hb hel]
  simp only [↓reduceIte]
  unfold setAddByScan
  refine wpAny_bind (wpAny_bind (wpAny_rule ?_))
  refine wpAny_bind (wpAny_setScan_of hkey ho hd hf hel ?_)
  cases hfi : List.findIdx? (fun e => (strKind P w).is x e.2) es.toList with
  | some j =>
    dsimp only
    obtain ⟨hj, pj, _⟩ := List.findIdx?_eq_some_iff_getElem.mp hfi
    have hin : x ∈ ks := ek ▸ (ok_mem (P := P) (w := w) g x).2 ⟨es.toList[j], List.getElem_mem hj, pj⟩
    exact wpAny_pure (wpAny_pure (hQ s.heap ks false (Heap.SameBut.refl a s.heap) ⟨o, es, ep, t, r⟩ (fun _ => rfl) fun c => absurd hin c))
  | none =>
    dsimp only
    have hnk : x ∉ ks := fun z => by
      rw [← ek] at z
      obtain ⟨e, he, q⟩ := (ok_mem (P := P) (w := w) g x).1 z
      have c := List.findIdx?_eq_none_iff.mp hfi e he
      rw [q] at c
      cases c
    have gw : ∀ (b : Bool) {s1 : Shared} {Q' : Unit → Shared → Prop}, Q' () s1 → wpAny (model P w) A (match b with | true => rule "set.scan.the-table-gave-way" | false => pure ()) Q' E s1 := by
      intro b s1 Q' q
      cases b
      · exact wpAny_pure q
      · exact wpAny_rule q
    have pm := layNew_perm t es ((strKind P w).hash x) (.str x tk)
    have f1 := layNew_fits t es ((strKind P w).hash x) (.str x tk)
    have r1 := layNew_ris t es ((strKind P w).hash x) (.str x tk) hr
    have l1 := layNew_led t es ((strKind P w).hash x) (.str x tk)
    generalize layNew t es ((strKind P w).hash x) (.str x tk) = Z at pm f1 r1 l1 ⊢
    obtain ⟨es1, t1, wasDummy, gv⟩ := Z
    dsimp only at pm f1 r1 l1 ⊢
    rw [Array.toList_push] at pm
    have pc : es1.toList.Perm (((strKind P w).hash x, Value.str x tk) :: es.toList) := pm.trans (List.perm_append_singleton _ _)
    have pk : (es1.toList.map eKey).Perm (x :: ks) := by
      have := pc.map eKey
      rwa [List.map_cons, ek] at this
    have g1 : ∀ e ∈ es1.toList, EOk w e := fun e he => by
      rcases List.mem_cons.mp (pc.mem_iff.mp he) with z | z
      · subst z
        exact ⟨x, tk, rfl, rfl⟩
      · exact g e z
    have n1 : (x :: ks).Nodup := List.nodup_cons.mpr ⟨hnk, nd⟩
    have hsz : es1.size = ks.length + 1 := by
      have := pc.length_eq
      rw [List.length_cons, Array.length_toList, Array.length_toList, hn] at this
      exact this
    have b1 : es1.size < scanBound := by omega
    have hled : w.params.followText "set-order" = true ∨ t1.led = true := hl.imp id fun z => l1.trans z
    have fin : ∀ h' k2, Heap.SameBut a s.heap h' → Ss w h' a k2 → k2.Perm (x :: ks) → Q true { s with heap := h' } := fun h' k2 sb q p => hQ h' k2 true sb q (fun c => absurd c hnk) fun _ => p
    refine wpAny_bind (gw _ ?_)
    split
    · refine wpAny_bind ?_
      rw [hashByValue_scannable 8 hsc]
      refine wpAny_pure ?_
      refine ss_tail ?_ ho hex hd g1 pk n1 b1 ?_ ?_ ?_ ?_
      · intro b s1 Q' q
        cases b
        · exact wpAny_pure q
        · exact wpAny_rule q
      · first | (split <;> first | exact f1 | exact SetTable.fits_plain_off f1) | exact f1
      · first | (split <;> exact r1) | exact r1
      · first | (split <;> exact hled) | exact hled
      · intro h' k2 sb q p
        dsimp only
        exact wpAny_pure (fin h' k2 sb q p)
    · refine wpAny_bind (wpAny_pure ?_)
      simp only [↓reduceIte]
      refine ss_tail ?_ ho hex hd g1 pk n1 b1 f1 r1 hled ?_
      · intro b s1 Q' q
        cases b
        · exact wpAny_pure q
        · exact wpAny_rule q
      · intro h' k2 sb q p
        dsimp only
        exact wpAny_pure (fin h' k2 sb q p)
theorem ss_fresh {h : Heap} (w : World) : Ss w (h.push { cls := .type "set", dict := none, data := .set #[] 0 (.fresh 0 0 (!w.params.followText "set-order")) }) h.objs.size [] := by
  refine ⟨_, #[], 0, _, Heap.get?_push_size _ rfl, ⟨rfl, rfl, rfl⟩, rfl, (fun e he => by simp at he), rfl, List.nodup_nil, (by decide), (by rfl), List.Pairwise.nil, ?_⟩
  show _ ∨ (!w.params.followText "set-order") = true
  cases w.params.followText "set-order"
  · exact .inr rfl
  · exact .inl rfl
/-- what the set holds after i turns -/
structure Got (val : Nat → Str) (i : Nat) (ks : List Str) : Prop where
  mem : ∀ y, y ∈ ks ↔ ∃ j, j < i ∧ val j = y
  len : ks.length ≤ i
theorem Got.zero (val : Nat → Str) : Got val 0 [] := ⟨fun y => by simp, Nat.le_refl _⟩
theorem Got.next {val : Nat → Str} {i : Nat} {ks k2 : List Str} (G : Got val i ks) (h1 : val i ∈ ks → k2 = ks) (h2 : val i ∉ ks → k2.Perm (val i :: ks)) : Got val (i + 1) k2 := by
  by_cases c : val i ∈ ks
  · rw [h1 c]
    refine ⟨fun y => (G.mem y).trans ⟨fun ⟨j, hj, e⟩ => ⟨j, by omega, e⟩, fun ⟨j, hj, e⟩ => ?_⟩, Nat.le_succ_of_le G.len⟩
    by_cases hji : j = i
    · subst hji
      rw [← e]
      exact (G.mem _).1 c
    · exact ⟨j, by omega, e⟩
  · have p := h2 c
    refine ⟨fun y => p.mem_iff.trans (List.mem_cons.trans ⟨fun z => ?_, fun ⟨j, hj, e⟩ => ?_⟩), ?_⟩
    · rcases z with z | z
      · exact ⟨i, Nat.lt_succ_self _, z.symm⟩
      · obtain ⟨j, hj, e⟩ := (G.mem y).1 z
        exact ⟨j, by omega, e⟩
    · by_cases hji : j = i
      · subst hji
        exact .inl e.symm
      · exact .inr ((G.mem y).2 ⟨j, by omega, e⟩)
    · rw [p.length_eq, List.length_cons]
      exact Nat.succ_le_succ G.len
end
section
variable {P : Program} {w : World} {A : Around} {R : Result → Shared → Prop} {I : Addr} {fp wr : List Addr} {G : Array GenState → Array GenState → Prop} {n : Nat} {Pv : Nat → Value → Prop} {St : Nat → Shared → Prop}
/-- set.update's loop over texts -/
theorem ss_update (W : WalksS P w A.in1 I fp wr G n Pv St) (S : Addr) (hSf : S ∉ fp) (val : Nat → Str) (hval : ∀ i v, Pv i v → ∃ t, v = .str (val i) t) (hb : n + 1 < scanBound) :
    ∀ (k i : Nat) (s : Shared), n - i = k → i ≤ n → St i s → (∃ ks, Ss w s.heap S ks ∧ Got val i ks) →
      (∀ s' ks, Moved (S :: wr) G s s' → Ss w s'.heap S ks → Got val n ks → R (.ok (.ret .none)) s') →
      codeAny (model P w) A (.builtin "set.update.loop" ⟨[.ref S, .ref I], []⟩) R s := by
  have hSw : S ∉ wr := fun h => hSf (W.sub _ h)
  have up : ∀ b ∈ wr, b ∈ S :: wr := fun b hb => List.mem_cons_of_mem _ hb
  intro k
  induction k with
  | zero =>
    intro i s hk hi hst ⟨ks, hS, g⟩ hR
    obtain rfl : i = n := by omega
    refine codeAny_builtin PyProof.Rows.F.entry_set_update_loop ?_
    rw [Around.under_plainId PyProof.Rows.F.plain_set_update_loop _]
    show wpAny _ A.in1 (pyNext (.ref I) >>= _) _ _ s
    refine wpAny_bind (W.done s _ _ hst fun s' hm => ?_)
    show wpAny _ A.in1 (ret Value.none) _ _ s'
    exact wpAny_pure (hR s' ks (hm.mono up) (hS.at fun o e => hm.heap S o hSw e) g)
  | succ k ih =>
    intro i s hk hi hst ⟨ks, hS, g⟩ hR
    have hlt : i < n := by omega
    refine codeAny_builtin PyProof.Rows.F.entry_set_update_loop ?_
    rw [Around.under_plainId PyProof.Rows.F.plain_set_update_loop _]
    show wpAny _ A.in1 (pyNext (.ref I) >>= _) _ _ s
    refine wpAny_bind (W.item i s _ _ hlt hst fun v s' hP hst' hm => ?_)
    obtain ⟨t, rfl⟩ := hval i v hP
    have hS' : Ss w s'.heap S ks := hS.at fun o e => hm.heap S o hSw e
    show wpAny _ A.in1 (holding [Value.str (val i) t] (setAdd S (.str (val i) t)) >>= _) _ _ s'
    refine wpAny_bind (wpAny_holding ?_)
    unfold setAdd
    refine wpAny_holding ?_
    refine wpAny_bind ((strKind P w).pyHash (k := val i) (by show Value.isStrOf (val i) (.str (val i) t) = true; simp [Value.isStrOf]) ?_)
    refine ss_add (s := { s' with toks := s'.toks + 1 }) hS' (by have := g.len; omega) fun h' k2 b sb hS2 c1 c2 => ?_
    have g' := g.next c1 c2
    have ne : ∀ c, c ≠ S → ∀ o, s'.heap.get? c = some o → h'.get? c = some o := fun c hc o e => (sb.2 c hc).trans e
    refine wpAny_pure ⟨plainId_quiet PyProof.Rows.F.plain_set_update_loop _, ih (i + 1) _ (by omega) hlt (W.frame _ s' _ _ hst' (Nat.le_succ _) fun b hb o e => ne b (fun z => hSf (z ▸ hb)) o e) ⟨k2, hS2, g'⟩ fun s'' k3 hm'' hS'' g'' => ?_⟩
    refine hR s'' k3 (Moved.trans W.gtrans ((hm.mono up).then_heap (Nat.le_succ _) fun b o hb e => ne b (fun z => hb (by rw [z]; exact List.mem_cons_self)) o e) hm'') hS'' g''
end
end TK
end
section
set_option Elab.async false
set_option linter.all false
set_option maxRecDepth 100000
set_option maxHeartbeats 8000000
namespace TK
open PySem PySem.Spec L2
open PyProof.Rows
abbrev sObj (w : World) : Obj := { cls := .type "set", dict := none, data := .set #[] 0 (.fresh 0 0 (!w.params.followText "set-order")) }
theorem str_no_set : isSubtype (.type "str") (.type "set") = pure false := by rw [isSubtype_type]; kernel_rfl
theorem str_no_frozen : isSubtype (.type "str") (.type "frozenset") = pure false := by rw [isSubtype_type]; kernel_rfl
theorem ne_two {a b : Nat} (h : a < b) : a ≠ b + 1 := by omega
theorem not_up {a : Nat} : ¬ a + 1 < a := by omega
theorem not_in_two {a b : Nat} (h : b < a) (z : a = a + 1 ∨ a = b) : False := by omega
section
variable {P : Program} {w : World} {A : Around} {E : Value → Shared → Prop} {s : Shared}
/-- set.__init__(S, a text) -/
theorem ss_init_str {x : Str} {t : Tok} (hh : A.handled = none) (hb : x.cps.size + 1 < scanBound) {Qf : PySem.Fin → Shared → Prop}
    (h : ∀ h' tk ks, (∀ b o, s.heap.get? b = some o → h'.get? b = some o) → Ss w h' s.heap.objs.size ks → Got (fun i => ⟨#[x.cps.getD i 0]⟩) x.cps.size ks → Qf (.done (.ret .none)) { s with heap := h', toks := tk }) :
    wpAny (model P w) A (Builtin.«set.__init__» ⟨[.ref s.heap.objs.size, .str x t], []⟩) Qf E { s with heap := s.heap.push (sObj w) } := by
  have n1 := str_no_set
  have n2 := str_no_frozen
  have n3 : (Value.type "str" == Value.type "dict") = false := by decide
  have z1 : (s.heap.push (sObj w)).objs.size = s.heap.objs.size + 1 := Heap.size_push ..
  unfold Builtin.«set.__init__» noKeywords Builtin.Frozenset.updateFrom
  generalize hPI : pyIter = PI
  wp_walk
  subst hPI
  refine wpAny_pyIter_str fun o St W st0 => ?_
  refine wpAny_bind (wpAny_runValue ?_)
  refine ss_update ((W _ (by simpa using hh)).toS) s.heap.objs.size (by rw [List.mem_singleton, z1]; exact Nat.ne_of_lt (Nat.lt_succ_self _)) (fun i => ⟨#[x.cps.getD i 0]⟩)
    (fun i v hv => ?_) hb (x.cps.size - 0) 0 _ (by omega) (Nat.zero_le _) st0 ?_ ?_
  · obtain ⟨c, u, hc, e⟩ := hv
    refine ⟨u, ?_⟩
    rw [e, Array.getD_eq_getD_getElem?, hc]
    rfl
  · exact ⟨[], (ss_fresh w).at fun o' e => Heap.get?_push_of_some _ e, Got.zero _⟩
  · intro s' ks hm hS g
    obtain ⟨h', g', d', tk', os'⟩ := s'
    obtain rfl : g' = s.gens := hm.gens
    obtain rfl : d' = s.drawn := hm.drawn
    obtain rfl : os' = s.os := hm.os
    show wpAny _ _ _ _ _ _
    refine wpAny_pure ?_
    show wpAny _ _ (ret Value.none) _ _ _
    refine wpAny_pure (h h' tk' ks (fun b o e => ?_) hS g)
    have hb1 := Heap.lt_size e
    refine hm.heap b o (fun z => ?_) (Heap.get?_push_of_some _ (Heap.get?_push_of_some _ e))
    rcases List.mem_cons.mp z with z | z
    · exact absurd hb1 (by rw [z]; exact Nat.lt_irrefl _)
    · rw [List.mem_singleton, z1] at z
      exact absurd hb1 (by rw [z]; exact not_up)
/-- set.__init__(S, a list of texts) -/
theorem ss_init_list {l : Addr} {items : Array Value} {xs : List Str} (hh : A.handled = none) (hl : s.heap.IsList l items) (hx : ∀ (i : Nat) v, items[i]? = some v → ∃ t, v = .str (xs.getD i Str.empty) t) (hb : items.size + 1 < scanBound) {Qf : PySem.Fin → Shared → Prop}
    (h : ∀ h' tk ks, (∀ b o, s.heap.get? b = some o → h'.get? b = some o) → Ss w h' s.heap.objs.size ks → Got (fun i => xs.getD i Str.empty) items.size ks → Qf (.done (.ret .none)) { s with heap := h', toks := tk }) :
    wpAny (model P w) A (Builtin.«set.__init__» ⟨[.ref s.heap.objs.size, .ref l], []⟩) Qf E { s with heap := s.heap.push (sObj w) } := by
  have z1 : (s.heap.push (sObj w)).objs.size = s.heap.objs.size + 1 := Heap.size_push ..
  obtain ⟨ol, hol, hcl, nl, hdl⟩ := hl
  obtain ⟨oc, od, odt, osl⟩ := ol
  simp only at hcl hdl
  subst hcl hdl
  have ho2 : (s.heap.push (sObj w)).get? l = some { cls := .type "list", dict := od, data := .seq items nl, slots := osl } := Heap.get?_push_of_some _ hol
  have n1 := PySem.F.sub_list_set
  have n2 := PySem.F.sub_list_frozenset
  have n3 : (Value.type "list" == Value.type "dict") = false := by decide
  have hl1 : (s.heap.push (sObj w)).IsList l items := ⟨_, ho2, rfl, nl, rfl⟩
  have hls : l < s.heap.objs.size := Heap.lt_size hol
  unfold Builtin.«set.__init__» noKeywords Builtin.Frozenset.updateFrom
  generalize hPI : pyIter = PI
  wp_walk
  subst hPI
  refine wpAny_pyIter_list hl1 ?_
  refine wpAny_bind (wpAny_runValue ?_)
  have nI : l ≠ (s.heap.push (sObj w)).objs.size := by rw [z1]; exact ne_two hls
  refine ss_update ((Walks.list (by simpa using hh) _ l nI items).toS) s.heap.objs.size (fun z => ?_) (fun i => xs.getD i Str.empty)
    (fun i v hv => hx i v hv) hb (items.size - 0) 0 _ (by omega) (Nat.zero_le _) ⟨⟨_, Heap.get?_push_size _ rfl, rfl, rfl⟩, hl1.push _⟩ ?_ ?_
  · rw [z1] at z
    simp only [List.mem_cons, List.not_mem_nil, or_false] at z
    exact not_in_two hls z
  · exact ⟨[], (ss_fresh w).at fun o' e => Heap.get?_push_of_some _ e, Got.zero _⟩
  · intro s' ks hm hS g
    obtain ⟨h', g', d', tk', os'⟩ := s'
    obtain rfl : g' = s.gens := hm.gens
    obtain rfl : d' = s.drawn := hm.drawn
    obtain rfl : os' = s.os := hm.os
    show wpAny _ _ _ _ _ _
    refine wpAny_pure ?_
    show wpAny _ _ (ret Value.none) _ _ _
    refine wpAny_pure (h h' tk' ks (fun b o e => ?_) hS g)
    have hb1 := Heap.lt_size e
    refine hm.heap b o (fun z => ?_) (Heap.get?_push_of_some _ (Heap.get?_push_of_some _ e))
    rcases List.mem_cons.mp z with z | z
    · exact absurd hb1 (by rw [z]; exact Nat.lt_irrefl _)
    · rw [List.mem_singleton, z1] at z
      exact absurd hb1 (by rw [z]; exact not_up)
/-- set(v), by what its __init__ does -/
theorem ss_call {v : Value} {R : List Str → Prop} {Q : Value → Shared → Prop}
    (hinit : ∀ (A' : Around) (Qf : PySem.Fin → Shared → Prop) (Ef : Value → Shared → Prop), A'.handled = A.handled →
      (∀ h' tk ks, (∀ b o, s.heap.get? b = some o → h'.get? b = some o) → Ss w h' s.heap.objs.size ks → R ks → Qf (.done (.ret .none)) { s with heap := h', toks := tk }) →
      wpAny (model P w) A' (Builtin.«set.__init__» ⟨[.ref s.heap.objs.size, v], []⟩) Qf Ef { s with heap := s.heap.push (sObj w) })
    (h : ∀ h' tk ks, (∀ b o, s.heap.get? b = some o → h'.get? b = some o) → Ss w h' s.heap.objs.size ks → R ks → Q (.ref s.heap.objs.size) { s with heap := h', toks := tk }) :
    wpAny (model P w) A (call (.type "set") [v]) Q E s := by
  obtain ⟨c0, tl0, hmr⟩ := PySem.F.called_set.mro
  have hmd := PySem.F.called_set.made
  have hsb := PySem.F.called_set.sub
  refine wpAny_call (codeAny_of_tree ?_)
  show wpAny _ _ (callAny (.type "set") _) _ _ _
  refine wpAny_pure ⟨Code.quiet_builtin _ (by decide +kernel), codeAny_builtin PySem.F.entry_type_call ?_⟩
  rw [Around.under_plain (weight_type_call_type "set" [v] []) rfl]
  have hnt := PySem.F.called_set.notType
  have hcc := PySem.F.called_set.canCreate
  have htc := PySem.F.typeCall_set_1 v
  repeat (any_goals (first | assumption | wp_step))
  refine codeAny_mono (code_set_led1 v (E := E) (Q₁ := fun ob s1 => ob = .ref s.heap.objs.size ∧ s1 = { s with heap := s.heap.push (sObj w) }) ⟨rfl, rfl⟩) fun r s1 hr => ?_
  cases r with
  | error e => exact hr
  | ok fl =>
    cases fl with
    | ret ob =>
      obtain ⟨rfl, rfl⟩ := hr
      have hS : (s.heap.push (sObj w)).get? s.heap.objs.size = some (sObj w) := Heap.get?_push_size _ rfl
      have hT : Shared.TypeIs { s with heap := s.heap.push (sObj w) } (.ref s.heap.objs.size) "set" := ⟨_, hS, rfl⟩
      have hil := PySem.F.called_set.init.lookup
      have hib := PySem.F.called_set.init.bind (.ref s.heap.objs.size)
      repeat (any_goals (first | assumption | wp_step))
      refine codeAny_mono (codeAny_call_builtin (R := wants (fun r s2 => r = .none ∧ ∃ h' tk ks, s2 = { s with heap := h', toks := tk } ∧ (∀ b o, s.heap.get? b = some o → h'.get? b = some o) ∧ Ss w h' s.heap.objs.size ks ∧ R ks) E)
        PySem.F.called_set.init.plain PySem.F.entry_set_init (check_set_init_1 hT ?_)) fun r2 s2 hr2 => ?_
      · refine hinit _ _ _ ?_ fun h' tk ks k1 k2 k3 => ?_
        · first | rfl | simp
        · exact ⟨rfl, h', tk, ks, rfl, k1, k2, k3⟩
      · cases r2 with
        | error e => exact hr2
        | ok fl2 =>
          cases fl2 with
          | ret r =>
            obtain ⟨rfl, h', tk, ks, rfl, k1, k2, k3⟩ := hr2
            repeat (any_goals (first | assumption | wp_step))
            exact h _ _ _ k1 k2 k3
          | _ => exact hr2.elim
    | _ => exact hr.elim
end
end TK
end
section
set_option Elab.async false
set_option linter.all false
set_option maxRecDepth 100000
set_option maxHeartbeats 8000000
namespace TK
open PySem PySem.Spec L2
open PyProof.Rows
/-! ### one call deeper -/
abbrev Dn (X : Cx) : Cx := { X with A := X.A.in1 }
theorem dn_ok {X : Cx} (o : X.Ok) : (Dn X).Ok := ⟨o.mod, o.kind, o.glob, o.blt, o.above, o.inj, o.has, o.cab, o.hd, o.frames, o.stk, o.exf, o.bs, o.bsz, o.noex, o.exfs, o.funs, o.frf⟩
theorem up_ok {X : Cx} (o : (Dn X).Ok) : X.Ok := ⟨o.mod, o.kind, o.glob, o.blt, o.above, o.inj, o.has, o.cab, o.hd, o.frames, o.stk, o.exf, o.bs, o.bsz, o.noex, o.exfs, o.funs, o.frf⟩
section
variable {X : Cx} {pins : List (Addr × Obj)} {σ : L2.St} {H : Hp} {s : Shared}
theorem dn_inv (I : Inv X pins σ H s) : Inv (Dn X) pins σ H s := ⟨dn_ok I.ok, I.os, I.bare, I.base, I.loc, I.cell, I.free, I.freeC, I.pin, I.hok, I.len⟩
theorem up_inv (I : Inv (Dn X) pins σ H s) : Inv X pins σ H s := ⟨up_ok I.ok, I.os, I.bare, I.base, I.loc, I.cell, I.free, I.freeC, I.pin, I.hok, I.len⟩
/-- sorted(u), by what u's walk gathers and a rule for list.sort -/
theorem sorted_via {r : V → List V → Hp → VK → Prop} {C : List V → Prop} {u : Value} {Q : VK} (hm : MtR (Dn X) "list.sort" r) (I : Inv X pins σ H s)
    (hcol : ∀ R : List Value → Shared → Prop, (∀ s1 us vs, Inv X pins σ H s1 → Vals vs us → vs.length ≤ sizeLine → C vs → R us s1) → wpAny (model X.prog X.w) X.A.in1 (collect u) R X.xe s)
    (h : ∀ vs p, C vs → H p = none → r (.ref p) [] (upd H p (.lst vs)) (fun _ H' => Q (.ref p) H')) :
    wpAny (model X.prog X.w) X.A (call (.builtin "sorted") [u]) (EP X pins σ Q) X.xe s := by
  refine Calls.call_function_entry PyProof.Rows.kind_sorted PyProof.Rows.plain_sorted PyProof.Rows.entry_sorted (PyProof.Rows.args_sorted1 _) ?_
  unfold Builtin.«sorted»
  refine wpAny_bind (m := checkCount "sorted" 1 1 _) (wpAny_pure ?_)
  refine wpAny_bind (hcol _ fun s1 us vs I1 rv hz hC => ?_)
  refine wpAny_bind (wpAny_newList ?_ (by rw [← rv.length]; exact hz))
  have hf : H s1.heap.objs.size = none := I1.hok.fresh (Nat.le_refl _)
  have I2 : Inv X pins σ (upd H s1.heap.objs.size (.lst vs)) { s1 with heap := s1.heap.push { cls := .type "list", data := .seq us.toArray } } :=
    I1.laid (t' := s1.toks) (fun b o e => Heap.get?_push_of_some _ e) (Nat.le_refl _) ⟨hz, us, 0, rv, Heap.get?_push_size _ rfl⟩
  refine wpAny_bind (wpAny_holding (thn (hm pins _ σ _ (.ref s1.heap.objs.size) [] (.ref s1.heap.objs.size) [] _ (dn_inv I2) rfl .nil (h vs _ hC hf)) fun w' s3 hq => ?_))
  obtain ⟨x, H3, I3, _, q⟩ := hq
  exact wpAny_pure ⟨_, rfl, .ref s1.heap.objs.size, H3, up_inv I3, rfl, q⟩
end
/-! ### a set of texts, tracked -/
def SsO (w : World) (a : Addr) (ks : List Str) : HO := .ext fun h => Ss w h a ks
theorem ss_new {P : Program} {w : World} {H : Hp} {h : Heap} {a : Addr} {ks : List Str} (R : Ss w h a ks) : ObjOk P w H h a (SsO w a ks) := by
  refine ⟨R, ?_, fun h1 h2 p k => p.at k⟩
  obtain ⟨o, es, ep, t, r⟩ := R
  exact ⟨o, r.gt⟩
theorem one_sign {z : Str} {i : Nat} (h : i < z.cps.size) : (⟨#[z.cps.getD i 0]⟩ : Str) = ⟨#[z.cps.toList[i]'(by simpa using h)]⟩ := by
  rw [Array.getD_eq_getD_getElem?, Array.getElem?_eq_getElem h]
  simp
theorem got_signs {z : Str} {ks : List Str} (g : Got (fun i => ⟨#[z.cps.getD i 0]⟩) z.cps.size ks) (y : Str) : y ∈ ks ↔ ∃ c ∈ z.cps.toList, y = ⟨#[c]⟩ := by
  rw [g.mem]
  constructor
  · rintro ⟨j, hj, e⟩
    exact ⟨_, List.getElem_mem (by simpa using hj), by rw [← e]; exact one_sign hj⟩
  · rintro ⟨c, hc, e⟩
    obtain ⟨j, hj, ej⟩ := List.getElem_of_mem hc
    have hj' : j < z.cps.size := by simpa using hj
    exact ⟨j, hj', by show (⟨#[z.cps.getD j 0]⟩ : Str) = y; rw [one_sign hj', e, ej]⟩
theorem got_list {xs : List Str} {ks : List Str} (g : Got (fun i => xs.getD i Str.empty) xs.length ks) (y : Str) : y ∈ ks ↔ y ∈ xs := by
  rw [g.mem]
  constructor
  · rintro ⟨j, hj, e⟩
    have e' : xs.getD j Str.empty = y := e
    rw [List.getD_eq_getElem?_getD, List.getElem?_eq_getElem hj] at e'
    exact e' ▸ List.getElem_mem hj
  · intro hc
    obtain ⟨j, hj, ej⟩ := List.getElem_of_mem hc
    refine ⟨j, hj, ?_⟩
    show xs.getD j Str.empty = y
    rw [List.getD_eq_getElem?_getD, List.getElem?_eq_getElem hj]
    exact ej
theorem ss_nodup {w : World} {h : Heap} {a : Addr} {ks : List Str} (R : Ss w h a ks) : ks.Nodup := by
  obtain ⟨o, es, ep, t, r⟩ := R
  exact r.nd
section
variable {X : Cx}
/-- set(a text), set(a list of texts) -/
def rSetS (K : PySem.W.Frag) (w : World) : List V → Hp → VK → Prop := fun vs H Q =>
  (∃ z : Str, vs = [.str z] ∧ z.length ≤ 4000 ∧ ∀ p ks, H p = none → ks.Nodup → (∀ y, y ∈ ks ↔ ∃ c ∈ z.cps.toList, y = (⟨#[c]⟩ : Str)) → Q (.ref p) (upd H p (SsO w p ks))) ∨
  ∃ l, ∃ xs : List Str, vs = [.ref l] ∧ SqL K H l (xs.map V.str) ∧ xs.length ≤ 4000 ∧ ∀ p ks, H p = none → ks.Nodup → (∀ y, y ∈ ks ↔ y ∈ xs) → Q (.ref p) (upd H p (SsO w p ks))
theorem cr_setS (hc : X.calm = true) : CallR X (.type "set") (rSetS X.K X.w) := by
  intro pins s σ H vs us Q I r h
  rcases h with ⟨z, rfl, hz, q⟩ | ⟨l, xs, rfl, hq, hz, q⟩
  · obtain ⟨u, rfl, rx⟩ := vals1 r
    obtain ⟨t, rfl⟩ := rx
    have hz' : z.cps.size ≤ 4000 := hz
    refine ss_call (R := fun ks => ∀ y, y ∈ ks ↔ ∃ c ∈ z.cps.toList, y = (⟨#[c]⟩ : Str)) (fun A' Qf Ef hA hq => ?_) fun h' tk ks kp hS hk => ?_
    · exact ss_init_str (hA.trans (I.ok.hd hc)) (by unfold scanBound; omega) fun h' tk ks kp hS g => hq h' tk ks kp hS (got_signs g)
    · exact ⟨.ref _, _, I.laid (t' := tk) kp (Nat.le_refl _) (ss_new hS), rfl, q _ ks (I.hok.fresh (Nat.le_refl _)) (ss_nodup hS) hk⟩
  · obtain ⟨u, rfl, rx⟩ := vals1 r
    cases rx
    obtain ⟨its, rv, pl, _⟩ := I.list hq
    have hlen : its.toArray.size = xs.length := by rw [List.size_toArray, ← rv.length, List.length_map]
    refine ss_call (R := fun ks => ∀ y, y ∈ ks ↔ y ∈ xs) (fun A' Qf Ef hA hq => ?_) fun h' tk ks kp hS hk => ?_
    · refine ss_init_list (xs := xs) (hA.trans (I.ok.hd hc)) pl.isList (fun i v hv => ?_) (by rw [hlen]; unfold scanBound; omega) fun h' tk ks kp hS g => hq h' tk ks kp hS (got_list (by rw [← hlen]; exact g))
      have hi : i < xs.length := by
        have := (Array.getElem?_eq_some_iff.mp hv).1
        omega
      obtain ⟨u2, e2, r2⟩ := rv.get (i := i) (x := .str xs[i]) (by simp [hi])
      have e3 : v = u2 := by
        rw [List.getElem?_toArray] at hv
        exact Option.some.inj (hv.symm.trans e2)
      obtain ⟨t, et⟩ := r2
      refine ⟨t, ?_⟩
      rw [e3, et, List.getD_eq_getElem?_getD, List.getElem?_eq_getElem hi]
      rfl
    · exact ⟨.ref _, _, I.laid (t' := tk) kp (Nat.le_refl _) (ss_new hS), rfl, q _ ks (I.hok.fresh (Nat.le_refl _)) (ss_nodup hS) hk⟩
/-- len of it -/
theorem cr_lenS : CallR X (.builtin "len") (fun vs H Q => ∃ a ks, vs = [.ref a] ∧ H a = some (SsO X.w a ks) ∧ Q (.int ks.length) H) := by
  intro pins s σ H vs us Q I r h
  obtain ⟨a, ks, rfl, ha, q⟩ := h
  obtain ⟨u, rfl, rx⟩ := vals1 r
  cases rx
  obtain ⟨o, es, ep, t, R⟩ := (I.hok a _ ha).1
  have hn : es.size = ks.length := by rw [← R.ke, List.length_map, Array.length_toList]
  have hb := R.bd
  unfold scanBound at hb
  exact call_len_set R.gt R.xs R.da R.ft (by omega) ⟨.int ks.length, H, I.tok _, ⟨_, by rw [hn]⟩, q⟩
/-- sorted of it -/
theorem cr_sortedS2 (hc : X.calm = true) : CallR X (.builtin "sorted") (fun vs H Q => ∃ a ks, vs = [.ref a] ∧ H a = some (SsO X.w a ks) ∧ ks.length < 64 ∧
    ∀ ys p, ys.Perm ks → sortedS ys = true → H p = none → Q (.ref p) (upd H p (.lst (ys.map V.str)))) := by
  intro pins s σ H vs us Q I r h
  obtain ⟨a, ks, rfl, ha, h64, q⟩ := h
  obtain ⟨u, rfl, rx⟩ := vals1 r
  cases rx
  obtain ⟨o, es, ep, t, R⟩ := (I.hok a _ ha).1
  refine sorted_via (C := fun vs => ∃ zs : List Str, vs = zs.map V.str ∧ zs.Perm ks) mt_sortS I (fun R' hR => ?_) fun vs p hC hp => ?_
  · refine collect_set (A := X.A.in1) (I.ok.hd hc) ⟨o, R.gt, R.xs.1, R.da⟩ R.ft R.bd R.ri R.le fun s1 out kp hsz hg ho hpm => ?_
    have J : Inv X pins σ H s1 := I.call' (ch := []) ho (Un.kept kp) (I.hok.kept kp) (by rw [hg]; exact I.bare) fun _ z => nomatch z
    have st : ∀ v ∈ out, ∃ x tk, v = Value.str x tk := fun v hv => by
      obtain ⟨e, he, q⟩ := List.mem_map.mp (hpm.mem_iff.mp hv)
      obtain ⟨x, tk, e1, _⟩ := R.el e he
      exact ⟨x, tk, q.symm.trans e1⟩
    have key : ∀ l : List Value, (∀ v ∈ l, ∃ x tk, v = Value.str x tk) → Vals ((l.map fun v => eKey (0, v)).map V.str) l := by
      intro l
      induction l with
      | nil => intro _; exact .nil
      | cons v l ih =>
        intro h
        obtain ⟨x, tk, e⟩ := h v List.mem_cons_self
        subst e
        exact .cons ⟨tk, rfl⟩ (ih fun v hv => h v (List.mem_cons_of_mem _ hv))
    have pk : (out.map fun v => eKey (0, v)).Perm ks := by
      have := hpm.map fun v => eKey (0, v)
      rw [List.map_map] at this
      have e : es.toList.map ((fun v => eKey (0, v)) ∘ fun x => x.2) = es.toList.map eKey := List.map_congr_left fun e _ => rfl
      rwa [e, R.ke] at this
    refine hR s1 out _ J (key out st) ?_ ⟨_, rfl, pk⟩
    rw [List.length_map, pk.length_eq]
    exact Nat.le_trans (Nat.le_of_lt h64) (by decide)
  · obtain ⟨zs, rfl, pz⟩ := hC
    refine ⟨p, zs, rfl, rfl, upd_same, by rw [pz.length_eq]; exact h64, fun ys py sy => ?_⟩
    rw [L2.upd_upd]
    exact q ys p (py.trans pz) sy hp
/-- sorted of a dict whose keys are pairs of ints -/
theorem cr_sortedDT (hc : X.calm = true) : CallR X (.builtin "sorted") (fun vs H Q => ∃ (d : Addr) (kvs : List (List Key × V)) (k : V → Int × Int), vs = [.ref d] ∧ Rd H d (.dT kvs) ∧
    (∀ bs, IsKeys H kvs bs → ∀ b ∈ bs, H b = some (.tup [.int (k (.ref b)).1, .int (k (.ref b)).2])) ∧
    ∀ bs zs p, IsKeys H kvs bs → SrtO.Srtd (ltP k) zs → SrtO.Stb (ltP k) zs (bs.map V.ref) → H p = none → Q (.ref p) (upd H p (.lst zs))) := by
  intro pins s σ H vs us Q I r h
  obtain ⟨d, kvs, k, rfl, hd, hk, q⟩ := h
  obtain ⟨u, rfl, rx⟩ := vals1 r
  cases rx
  obtain ⟨z, hs, ks, pr, o, es, ep, ho, hx, hdt, he, hn⟩ := (show ObjOk X.prog X.w H s.heap d (.dT kvs) from hd.ok I.hok)
  have l1 : es.size = ks.length := size_of_entries he
  have l2 : kvs.length = ks.length := Paired.length pr
  have hK : IsKeys H kvs (ks.map fun x => x.2.1) := isKeys_of pr
  refine sorted_via (C := fun vs => vs = (ks.map fun x => x.2.1).map V.ref) mt_sortPO I (fun R' hR => ?_) fun vs p hC hp => ?_
  · refine PySem.W.kdu_collect (A := X.A.in1) (kdl_raw hs hx hdt) (I.ok.hd hc) ho (by omega) fun h' tk acc kp it => ?_
    have ea : acc.toList = ks.map fun x => Value.ref x.2.1 := by
      apply List.ext_getElem?
      intro j
      rw [List.getElem?_map]
      cases hj : acc.toList[j]? with
      | none =>
        have g1 := List.getElem?_eq_none_iff.mp hj
        rw [Array.length_toList, it.1, l1] at g1
        rw [List.getElem?_eq_none g1]
        rfl
      | some v =>
        obtain ⟨en, hen, hv⟩ := it.2 j v (by rw [← Array.getElem?_toList]; exact hj)
        have qe := entry_at he j
        rw [hen] at qe
        cases hb : ks[j]? with
        | none =>
          rw [hb] at qe
          cases qe
        | some x =>
          rw [hb] at qe
          have e2 := Option.some.inj qe
          rw [hv, e2]
          rfl
    refine hR _ _ ((ks.map fun x => x.2.1).map V.ref) (I.kept (t' := tk) kp) ?_ (by rw [List.length_map, List.length_map]; omega) rfl
    have e : (ks.map fun x => Value.ref x.2.1) = (ks.map fun x => x.2.1).map Value.ref := by
      rw [List.map_map]
      rfl
    rw [ea, e]
    exact vals_refs _
  · subst hC
    refine ⟨p, (ks.map fun x => x.2.1).map V.ref, k, rfl, rfl, upd_same, fun y hy => ?_, fun zs s1 s2 => ?_⟩
    · obtain ⟨b, hb, e⟩ := List.mem_map.mp hy
      subst e
      have hb2 := hk _ hK b hb
      exact ⟨b, rfl, by rw [upd_ne (ne_of_none hb2 hp)]; exact hb2⟩
    · rw [L2.upd_upd]
      exact q _ zs p hK s1 s2 hp
end
end TK
end
section
set_option Elab.async false
set_option linter.all false
set_option maxRecDepth 100000
set_option maxHeartbeats 8000000
/-! enumerate over a tuple; zip walked by one name. -/
namespace TK
open PySem PySem.Spec L2
open PyProof.Rows
/-- enumerate.__new__ of anything that iter() walks by one new object -/
theorem meets_enum1 {v : Value} {o : Obj} {F : Heap → Prop} (B : Begins v o F) :
    Meets (Builtin.«enumerate.__new__» ⟨[.type "enumerate", v], []⟩) (fun _ R s => F s.heap ∧
      R (.ok (.ret (.ref (s.heap.push o).objs.size))) { s with heap := (s.heap.push o).push { cls := .type "enumerate", data := .fields #[.none, .bool false, .ref s.heap.objs.size, rawInt 0, .none, .none] } }) := by
  refine .of_wp fun prog w A R s h => ?_
  obtain ⟨hp, g, d, tk, os⟩ := s
  obtain ⟨h1, h⟩ := h
  have hsub := sub_enumerate
  have qi : ∀ {A' : Around} {E Q : Value → Shared → Prop}, Q (.ref hp.objs.size) ⟨hp.push o, g, d, tk, os⟩ → wpAny (model prog w) A' (pyIter v) Q E ⟨hp, g, d, tk, os⟩ := fun q => B.iter prog w _ _ ⟨hp, g, d, tk, os⟩ _ h1 q
  wp_walk using qi
  refine wpAny_stack_any fun st => wpAny_pure ?_
  split
  · rename_i c _ _ _ _ _
    cases (c == Value.type "enumerate")
    · wp_walk using qi
      exact ⟨_, rfl, h⟩
    · wp_walk using qi
      exact ⟨_, rfl, h⟩
  · wp_walk using qi
    exact ⟨_, rfl, h⟩
section
variable {prog : Program} {w : World} {A : Around} {E : Value → Shared → Prop} {s : Shared}
theorem call_enum1 {v : Value} {o : Obj} {F : Heap → Prop} {Q : Value → Shared → Prop} (B : Begins v o F) (h1 : F s.heap)
    (h : ∀ h', IsEnum h' (s.heap.objs.size + 1) s.heap.objs.size 0 .none → h'.get? s.heap.objs.size = some o → (∀ b u, s.heap.get? b = some u → h'.get? b = some u) → Q (.ref (s.heap.objs.size + 1)) { s with heap := h' }) :
    wpAny (model prog w) A (call (.type "enumerate") [v]) Q E s := by
  refine callType_new PySem.F.called_enumerate (by decide) (PySem.F.typeCall_enumerate_1 _) (PySem.F.newCall_enumerate_1 _) (fun ob => PySem.F.args_object_init_2 ob _) PySem.F.entry_enumerate_new (meets_enum1 B) ⟨h1, ?_⟩
  have hz : (s.heap.push o).objs.size = s.heap.objs.size + 1 := Heap.size_push ..
  have he : IsEnum ((s.heap.push o).push { cls := .type "enumerate", data := .fields #[.none, .bool false, .ref s.heap.objs.size, rawInt 0, .none, .none] }) (s.heap.objs.size + 1) s.heap.objs.size 0 .none := by
    rw [← hz]
    exact Heap.get?_push_size _ rfl
  show _ ∧ _
  rw [hz]
  exact ⟨⟨_, he, rfl⟩, h _ he (Heap.get?_push_of_some _ (Heap.get?_push_size _ B.free)) fun b u x => Heap.get?_push_of_some _ (Heap.get?_push_of_some _ x)⟩
end
/-- the tuple at a, item by item, in new pairs with its place -/
def IteT (K : PySem.W.Frag) (a : Addr) : It where
  go := fun i H => ∃ (xs : List V) (x : V), SqT K H a xs ∧ xs[i]? = some x
  yld := fun i H v H' => ∃ T x, v = .ref T ∧ H T = none ∧ H' = upd H T (.tup [.int (i : Nat), x]) ∧ ∀ xs, SqT K H a xs → xs[i]? = some x
  stop := fun i H => ∃ xs : List V, SqT K H a xs ∧ xs.length = i
theorem turn_enumT {P : Program} {w : World} {K : PySem.W.Frag} {elts : List Expr} {kk : Nat} {tpos : Pos} (a e it : Addr) :
    Turn P w K (.Tuple elts kk tpos) (IteT K a) [e, it] e (fun i h => (∃ old, IsEnum h e it ((i : Nat) : Int) old) ∧ h.IsTupleIter it a i ∧ e ≠ it) where
  mem := by simp
  obj := by
    rintro i h ⟨⟨old, he⟩, ⟨o, ho, hc, hd⟩, _⟩ b hb
    have eb : b = e ∨ b = it := by simpa using hb
    rcases eb with z | z
    · subst z
      exact ⟨_, he, fun v q => by cases q⟩
    · exact ⟨o, z ▸ ho, fun v q => by rw [hd] at q; cases q⟩
  keep := fun i h h' st k => by
    obtain ⟨⟨old, he⟩, hi, hne⟩ := st
    exact ⟨⟨old, k e (by simp) _ he⟩, hi.at fun o q => k it (by simp) o q, hne⟩
  item := by
    intro X hP hw hK hc i pins s σ H E I hf st hg
    subst hP hw hK
    obtain ⟨⟨old, he⟩, hit, hne⟩ := st
    obtain ⟨xs, x, hq, hx⟩ := hg
    obtain ⟨its, rv, p, hz⟩ := I.tuple hq
    have tp : s.heap.IsTuple a its.toArray := p
    obtain ⟨u, hu, ru⟩ := rv.get hx
    have lte : e < s.heap.objs.size := Heap.lt_size he
    have lti : it < s.heap.objs.size := by obtain ⟨_, q, _⟩ := hit; exact Heap.lt_size q
    have nta : a ≠ it := fun z => by
      obtain ⟨o1, g1, c1, _⟩ := tp
      obtain ⟨o2, g2, c2, _⟩ := hit
      rw [z, g2] at g1
      cases g1
      rw [c2] at c1
      exact absurd (Value.type.inj c1) (by decide)
    have nea : e ≠ a := fun z => by
      obtain ⟨o1, g1, c1, _⟩ := tp
      have g2 : s.heap.get? e = _ := he
      rw [z, g1] at g2
      cases g2
      exact absurd (Value.type.inj c1) (by decide)
    refine wpAny_pyNext_enum_itemD (Draws.tuple (A := X.A.in1) (I.ok.hd hc) it a nta its.toArray) he ⟨hit, tp⟩ (by rw [List.size_toArray]; exact (List.getElem?_eq_some_iff.mp hu).1) hne (by simp only [List.mem_cons, List.not_mem_nil, or_false, not_or]; exact ⟨hne, nea⟩)
      fun y h' tk hy ho hs' hT hsz hk => ?_
    obtain rfl : y = u := by
      rw [List.getElem?_toArray, hu] at hy
      exact (Option.some.inj hy).symm
    refine ⟨_, rfl, wpAny_letOwnedTupleGo_enum (s := { s with heap := h', toks := tk + 1 }) ho fun h2 he2 sb => ?_⟩
    have hT2 : h2.get? s.heap.objs.size = some { cls := .type "tuple", data := .seq #[.int i tk, y] } := (sb.2 _ (Nat.ne_of_gt lte)).trans hT
    have new : ObjOk X.prog X.w (upd H s.heap.objs.size (.tup [.int (i : Nat), x])) h2 s.heap.objs.size (.tup [.int (i : Nat), x]) :=
      ⟨by show 2 ≤ sizeLine; decide, [.int i tk, y], .cons ⟨_, rfl⟩ (.cons ru .nil), ⟨_, hT2, rfl, _, rfl⟩⟩
    have I1 : Inv X pins σ (upd H s.heap.objs.size (.tup [.int (i : Nat), x])) { s with heap := h2, toks := tk + 1 } :=
      I.turnedNew (ch := [e, it]) (fun b ob hb q => (sb.2 b (fun z => hb (by simp [z]))).trans (hk b ob (fun z => hb (by simp [z])) (fun z => hb (by simp [z])) q)) hf (Nat.le_refl _) new
    refine ⟨.ref s.heap.objs.size, _, I1, rfl, ⟨_, x, rfl, I.hok.fresh (Nat.le_refl _), rfl, fun ys hy => by rw [I.tuple_inj hy hq]; exact hx⟩, ⟨⟨y, ?_⟩, ?_, hne⟩, fun b hb => ?_⟩
    · have e1 : ((i + 1 : Nat) : Int) = (i : Int) + 1 := by omega
      rw [e1]
      exact he2
    · exact hs'.1.at fun o q => (sb.2 it (Ne.symm hne)).trans q
    · have hb' : b < s.heap.objs.size := by
        have eb : b = e ∨ b = it := by simpa using hb
        rcases eb with z | z
        · exact z ▸ lte
        · exact z ▸ lti
      rw [upd_ne (Nat.ne_of_lt hb')]
      exact (hf b hb).1
  done := by
    intro X hP hw hK hc i pins s σ H E I hf st hg
    subst hP hw hK
    obtain ⟨⟨old, he⟩, hit, hne⟩ := st
    obtain ⟨xs, hq, hx⟩ := hg
    obtain ⟨its, rv, p, hz⟩ := I.tuple hq
    have tp : s.heap.IsTuple a its.toArray := p
    obtain ⟨f0, f1, f2, f3, f4, f5⟩ := hf it (by simp)
    have hl : its.toArray.size = i := by rw [List.size_toArray, ← rv.length, hx]
    have nta : a ≠ it := fun z => by
      obtain ⟨o1, g1, c1, _⟩ := tp
      obtain ⟨o2, g2, c2, _⟩ := hit
      rw [z, g2] at g1
      cases g1
      rw [c2] at c1
      exact absurd (Value.type.inj c1) (by decide)
    subst hl
    exact wpAny_pyNext_enum_endD (Draws.tuple (A := X.A.in1) (I.ok.hd hc) it a nta its.toArray) he ⟨hit, tp⟩ fun h' eb => ⟨rfl, I.turned (t' := s.toks) (fun b o hb q => eb b o hb q) f0 f1 f3 f4 f5⟩
  self := fun A i s Q E st h => let ⟨⟨_, he⟩, _⟩ := st; wpAny_pyIter_enum he h
def iEnumT (K : PySem.W.Frag) (ta : TA) : TI := fun σ H R => ta σ H fun vs H1 => ∃ a xs, vs = [.ref a] ∧ SqT K H1 a xs ∧ R (IteT K a) H1
theorem pi_enumT {X : Cx} {e : Expr} {ta : TA} {p pos tpos : Pos} {elts : List Expr} {kk : Nat} (hg : Gl X "enumerate") (hm : X.mg "enumerate" = none) (ha : PA X [e] ta) (hs : starEach [e] X.env = [(false, eval e X.env)] := by rfl) :
    PI X (.Tuple elts kk tpos) (.Call (.Name "enumerate" p) [e] [] pos) (iEnumT X.K ta) := by
  refine ⟨fun pins s σ H R I h => ?_⟩
  refine Call_ (ld_blt I hg hm boot_enumerate (PyProof.Rows.callWith_type1 (thn (ha.run pos pins s σ H _ I h) fun us s1 ⟨vs, H1, I1, r1, q1⟩ => ?_) hs rfl))
  obtain ⟨a, xs, ex, hq, q⟩ := q1
  subst ex
  obtain ⟨u, rfl, ru⟩ := vals1 r1
  cases ru
  obtain ⟨its, rv, p', hz⟩ := I1.tuple hq
  refine call_enum1 (begins_tuple a its.toArray) (show s1.heap.IsTuple a its.toArray from p') fun h' he hit hk => wpAny_pyIter_enum he ?_
  have I2 : Inv X pins σ H1 { s1 with heap := h' } := I1.kept (t' := s1.toks) hk
  refine ⟨s1.heap.objs.size + 1, [s1.heap.objs.size + 1, s1.heap.objs.size], _, _, H1, rfl, I2, turn_enumT a (s1.heap.objs.size + 1) s1.heap.objs.size, ⟨⟨.none, he⟩, ⟨_, hit, rfl, rfl⟩, Nat.succ_ne_self _⟩, fun b hb => ?_, q⟩
  have e' : b = s1.heap.objs.size + 1 ∨ b = s1.heap.objs.size := by simpa using hb
  have hle : s1.heap.objs.size ≤ b := by
    rcases e' with z | z
    · exact z ▸ Nat.le_add_right _ _
    · exact z ▸ Nat.le_refl _
  exact I1.fpOk hle (I1.hok.fresh hle)
theorem walk_enumT {K : PySem.W.Frag} {a : Addr} {xs : List V} : Walk (IteT K a) xs.length (fun H => SqT K H a xs) (YPair (fun i => some (.int (i : Nat))) (fun i => xs[i]?)) := by
  refine ⟨fun i _ hi q => ⟨xs, xs[i], q, by simp [hi]⟩, fun _ q => ⟨xs, q, rfl⟩, fun i H v H' _ q y => ?_⟩
  obtain ⟨T, x, h1, h2, h3, h4⟩ := y
  exact ⟨T, .int (i : Nat), x, h1, h2, h3, rfl, h4 xs q⟩
end TK
end
section
set_option Elab.async false
set_option linter.all false
set_option maxRecDepth 100000
set_option maxHeartbeats 8000000
/-! zip of two lists walked by ONE name: the pair of a turn stays in the zip's own field. -/
namespace TK
open PySem PySem.Spec L2
open PyProof.Rows
/-- Pv by the turn; a turn keeps every tuple -/
def tForZ (K : PySem.W.Frag) (ta : TA) (g : TG) (tb : TS) : TS := fun D σ H => ta σ H fun vs H1 => ∃ (a b : Addr) (xs ys : List V) (Pv : Nat → L2.St → Hp → Prop), vs = [.ref a, .ref b] ∧ SqL K H1 a xs ∧ SqL K H1 b ys ∧ Pv 0 σ H1 ∧
  (∀ i σ H, Pv i σ H → SqL K H a xs ∧ SqL K H b ys) ∧
  (∀ i x y T σ H, xs[i]? = some x → ys[i]? = some y → Pv i σ H → H T = none → g (.ref T) σ (upd H T (.tup [x, y])) fun σ2 H2 =>
    let N : L2.St → Hp → Prop := fun σ' H' => Pv (i + 1) σ' H' ∧ ∀ b zs, upd H T (.tup [x, y]) b = some (.tup zs) → H' b = some (.tup zs)
    tb { D with nx := N, ct := N, bk := D.nx } σ2 H2) ∧ ∀ σ H, Pv (min xs.length ys.length) σ H → D.nx σ H
/-- the zip between two turns: fresh, or with a tuple that is tracked -/
def ZSt (h : Heap) (H : Hp) (z TI TO : Addr) : Prop := IsZip h z TI TO .none ∨ ∃ T f zs, IsZipHeld h z TI TO T f ∧ H T = some (.tup zs)
section
variable {X : Cx}
theorem zip_one {x : String} {cp : Pos} {p pos fpos : Pos} {e e2 : Expr} {ta : TA} {g : TG} {tb : TS} {body : List Stmt} (hp : PassesOwn (model X.prog X.w) X.A X.env X.xe) (hc : X.calm = true)
    (hg : Gl X "zip") (hm : X.mg "zip" = none) (ha : PA X [e, e2] ta) (ht : PG X (.Name x cp) g) (hb : PSs X body tb)
    (hs : starEach [e, e2] X.env = (false, eval e X.env) :: starEach [e2] X.env := by rfl) (hpl : (backTo pos (starEach [e2] X.env)).any (·.1) = false := by rfl)
    (hf : ∀ v, foldedSetIterable (.Call (.Name "zip" p) [e, e2] [] pos) X.env v = pure v := by intro _; rfl) :
    PS X (.For (.Name x cp) (.Call (.Name "zip" p) [e, e2] [] pos) body [] fpos) (tForZ X.K ta g tb) := by
  refine ⟨fun pins s σ H D I h => ?_⟩
  refine wpAny_For (Call_ (ld_blt I hg hm PyProof.Rows.boot_zip (PyProof.Rows.callWith_type1 (thn (ha.run pos pins s σ H _ I h) fun us s1 ⟨vs, H1, I1, r1, q1⟩ => ?_) hs hpl))) hf
  obtain ⟨a, b, xs, ys, Pv, ex, hqx, hqy, p0, pq, step, fin⟩ := q1
  subst ex
  obtain ⟨u1, u2, rfl, ru1, ru2⟩ := vals2 r1
  cases ru1
  cases ru2
  obtain ⟨its0, rv0, l0, _⟩ := I1.list hqx
  obtain ⟨its20, rv20, l20, _⟩ := I1.list hqy
  have la : a < s1.heap.objs.size := l0.lt
  have lb : b < s1.heap.objs.size := l20.lt
  refine call_zip_2 l0.isList l20.isList fun h' hz0 hTI0 hTO0 h10 h20 hsz0 hk0 => wpAny_pyIter_zip hz0 ?_
  have I2 : Inv X pins σ H1 { s1 with heap := h' } := I1.kept (t' := s1.toks) hk0
  have D := PySem.W.ktu_apart s1.heap.objs.size a b la lb
  generalize hz : s1.heap.objs.size + 4 = z at *
  generalize hTI : s1.heap.objs.size + 2 = TI at *
  generalize hTO : s1.heap.objs.size + 3 = TO at *
  generalize hi1 : s1.heap.objs.size = i1 at *
  generalize hi2 : i1 + 1 = i2 at *
  have f2 : ∀ c ∈ [z, TI, TO, i1, i2], FpOk X pins H1 c := fun c hcm => by
    have hle : s1.heap.objs.size ≤ c := by
      have e' : c = z ∨ c = TI ∨ c = TO ∨ c = i1 ∨ c = i2 := by simpa using hcm
      omega
    exact I1.fpOk hle (I1.hok.fresh hle)
  have stat : ∀ {H' : Hp}, (∀ b ∈ [z, TI, TO, i1, i2], H' b = none) → ∀ b ∈ [z, TI, TO, i1, i2], FpOk X pins H' b := fun hn b hb => ⟨hn b hb, (f2 b hb).2⟩
  refine codeAny_forLoop_any (fun n s' => ∃ i σ' H', Inv X pins σ' H' s' ∧ (ZSt s'.heap H' z TI TO ∧ (∃ x y, IsPair s'.heap TO x y) ∧ IsPair s'.heap TI (.ref i1) (.ref i2) ∧ s'.heap.IsListIter i1 a i ∧ s'.heap.IsListIter i2 b i) ∧ (∀ b ∈ [z, TI, TO, i1, i2], H' b = none) ∧ Pv i σ' H' ∧ i + n = min xs.length ys.length) ?_ (min xs.length ys.length)
    ⟨0, σ, H1, I2, ⟨.inl hz0, ⟨_, _, hTO0⟩, hTI0, h10, h20⟩, fun b hb => (f2 b hb).1, p0, by omega⟩
  rintro n s3 ⟨i, σ3, H3, I3, ⟨zst, ⟨x0, y0, hTO1⟩, tI, it1, it2⟩, fr3, p3, en⟩
  obtain ⟨qx, qy⟩ := pq i σ3 H3 p3
  obtain ⟨its, rv, pl, _⟩ := I3.list qx
  obtain ⟨its2, rv2, pl2, _⟩ := I3.list qy
  have hl1 := rv.length
  have hl2 := rv2.length
  cases n with
  | zero =>
    have ei : i = min xs.length ys.length := by omega
    have he : its.toArray[i]? = none ∨ its2.toArray[i]? = none := by
      by_cases q : xs.length ≤ i
      · exact .inl (by simp; omega)
      · exact .inr (by simp; omega)
    refine wpAny_passesOwn hp ?_
    rcases zst with hz1 | ⟨T, f, zs, hz1, hT1⟩
    · refine wpAny_pyNext_zip_end (I3.ok.hd hc) D hz1 tI hTO1 it1 it2 pl.isList pl2.isList he fun h4 hk => ?_
      have I4 : Inv X pins σ3 H3 { s3 with heap := h4 } := I3.turnedL (t' := s3.toks) (ch := [z, TI, TO, i1, i2]) (fun c o hb q =>
        hk c o (fun q' => hb (by simp [q'])) (fun q' => hb (by simp [q'])) (fun q' => hb (by simp [q'])) (fun q' => hb (by simp [q'])) q) (stat fr3)
      exact wpAny_execs_nil ⟨σ3, H3, I4, fin _ _ (ei ▸ p3)⟩
    · obtain ⟨hzs, itsT, rT, oT, goT, _⟩ := I3.hok T _ hT1
      refine wpAny_pyNext_zip_end_held (I3.ok.hd hc) D hz1 goT tI it1 it2 pl.isList pl2.isList he fun h4 hk => ?_
      have I4 : Inv X pins σ3 H3 { s3 with heap := h4 } := I3.turnedL (t' := s3.toks) (ch := [z, TI, TO, i1, i2]) (fun c o hb q =>
        hk c o (fun q' => hb (by simp [q'])) (fun q' => hb (by simp [q'])) (fun q' => hb (by simp [q'])) q) (stat fr3)
      exact wpAny_execs_nil ⟨σ3, H3, I4, fin _ _ (ei ▸ p3)⟩
  | succ n =>
    have hix : i < xs.length := by omega
    have hiy : i < ys.length := by omega
    have gx : xs[i]? = some xs[i] := List.getElem?_eq_getElem hix
    have gy : ys[i]? = some ys[i] := List.getElem?_eq_getElem hiy
    obtain ⟨u, hu, ru⟩ := rv.get gx
    obtain ⟨u2, hu2, ru2⟩ := rv2.get gy
    have hTf : H3 s3.heap.objs.size = none := I3.hok.fresh (Nat.le_refl _)
    have allt : ∀ c ∈ [z, TI, TO, i1, i2], c < s3.heap.objs.size := fun c hcm => by
      have e' : c = z ∨ c = TI ∨ c = TO ∨ c = i1 ∨ c = i2 := by simpa using hcm
      have hsz : s1.heap.objs.size + 5 ≤ s3.heap.objs.size := by
        rcases zst with hz1 | ⟨T, f, zs, hz1, _⟩
        · have : z < _ := Heap.lt_size (show s3.heap.get? z = some _ from hz1); omega
        · have : z < _ := Heap.lt_size (show s3.heap.get? z = some _ from hz1); omega
      omega
    -- the turn's item
    have next : wpAny (model X.prog X.w) X.A (pyNext (.ref z)) (fun r s4 => ∃ h4 T4 f4, r = some (.ref s3.heap.objs.size) ∧ s4 = { s3 with heap := h4 } ∧ IsZipHeld h4 z TI TO T4 f4 ∧ (T4 = s3.heap.objs.size ∨ ∃ zs, H3 T4 = some (.tup zs)) ∧ (∃ x y, IsPair h4 TO x y) ∧ h4.IsListIter i1 a (i + 1) ∧ h4.IsListIter i2 b (i + 1) ∧ IsPair h4 s3.heap.objs.size u u2 ∧
        (∀ c o, c ∉ [z, TI, TO, i1, i2] → s3.heap.get? c = some o → h4.get? c = some o) ∧ IsPair h4 TI (.ref i1) (.ref i2)) X.xe s3 := by
      rcases zst with hz1 | ⟨T, f, zs, hz1, hT1⟩
      · refine wpAny_pyNext_zip_item D hz1 tI hTO1 it1 it2 pl.isList pl2.isList (x := u) (y := u2) (by simpa using hu) (by simpa using hu2) fun h4 z4 O4 a4 b4 T4 _ k4 => ?_
        exact ⟨h4, _, false, rfl, rfl, z4, .inl rfl, ⟨_, _, O4⟩, a4, b4, T4, fun c o hb q => k4 c o (fun q' => hb (by simp [q'])) (fun q' => hb (by simp [q'])) (fun q' => hb (by simp [q'])) (fun q' => hb (by simp [q'])) q, k4 _ _ D.TIz D.TITO D.TIi1 D.TIi2 tI⟩
      · obtain ⟨hzs, itsT, rT, oT, goT, _⟩ := I3.hok T _ hT1
        refine wpAny_pyNext_zip_item_held D hz1 goT tI it1 it2 pl.isList pl2.isList (x := u) (y := u2) (by simpa using hu) (by simpa using hu2) fun h4 z4 a4 b4 T4 _ k4 => ?_
        exact ⟨h4, _, true, rfl, rfl, z4, .inr ⟨zs, hT1⟩, ⟨_, _, k4 _ _ D.TOz D.TOi1 D.TOi2 hTO1⟩, a4, b4, T4, fun c o hb q => k4 c o (fun q' => hb (by simp [q'])) (fun q' => hb (by simp [q'])) (fun q' => hb (by simp [q'])) q, k4 _ _ D.TIz D.TIi1 D.TIi2 tI⟩
    refine wpAny_passesOwn hp (thn next fun r s4 ⟨h4, T4, f4, er, es, hz4, hT44, hO4, a4, b4, hT4, hk4, hI4⟩ => ?_)
    subst er es
    have I5 : L2.Inv X pins σ3 (upd H3 s3.heap.objs.size (.tup [xs[i], ys[i]])) { s3 with heap := h4 } :=
      I3.turnedNew (t' := s3.toks) (ch := [z, TI, TO, i1, i2]) hk4 (stat fr3) (Nat.le_refl _) ⟨by show 2 ≤ sizeLine; decide, [u, u2], .cons ru (.cons ru2 .nil), ⟨_, hT4, rfl, _, rfl⟩⟩
    have fr5 : ∀ c ∈ [z, TI, TO, i1, i2], upd H3 s3.heap.objs.size (.tup [xs[i], ys[i]]) c = none := fun c hcm => by
      rw [upd_ne (Nat.ne_of_lt (allt c hcm))]
      exact fr3 c hcm
    have obj5 : ∀ c ∈ [z, TI, TO, i1, i2], ∃ o, h4.get? c = some o ∧ ∀ v, o.data ≠ .cell v := fun c hcm => by
      have e' : c = z ∨ c = TI ∨ c = TO ∨ c = i1 ∨ c = i2 := by simpa using hcm
      obtain ⟨x5, y5, hO5⟩ := hO4
      obtain ⟨o1, e1, _, d1⟩ := id a4
      obtain ⟨o2, e2, _, d2⟩ := id b4
      rcases e' with q | q | q | q | q
      · rw [q]; exact ⟨_, hz4, fun v q => nomatch q⟩
      · rw [q]; exact ⟨_, hI4, fun v q => nomatch q⟩
      · rw [q]; exact ⟨_, hO5, fun v q => nomatch q⟩
      · rw [q]; exact ⟨o1, e1, fun v q => by rw [d1] at q; cases q⟩
      · rw [q]; exact ⟨o2, e2, fun v q => by rw [d2] at q; cases q⟩
    have I5' := I5.pinned (stat fr5) obj5
    refine wpAny_passesOwn hp (Q := fun _ s' => _) (wpAny_pure ?_)
    refine wpAny_passesOwn hp (thn (ht.run _ _ σ3 _ (.ref s3.heap.objs.size) _ _ I5' (show L2.RelV (.ref s3.heap.objs.size) _ from rfl) (step i _ _ _ σ3 H3 gx gy p3 hTf)) fun _ s6 ⟨σ6, H6, I6, q6⟩ => ?_)
    refine wpAny_passesOwn hp (thn (hb.run _ s6 σ6 H6 _ I6 q6) fun f s7 q7 => ?_)
    have again : ∀ {σ7 : L2.St} {H7 : Hp}, L2.Inv X (pins ++ pinsAt [z, TI, TO, i1, i2] h4) σ7 H7 s7 → (Pv (i + 1) σ7 H7 ∧ ∀ b zs, upd H3 s3.heap.objs.size (.tup [xs[i], ys[i]]) b = some (.tup zs) → H7 b = some (.tup zs)) →
        ∃ m, m < n + 1 ∧ ∃ i σ' H', L2.Inv X pins σ' H' s7 ∧ (ZSt s7.heap H' z TI TO ∧ (∃ x y, IsPair s7.heap TO x y) ∧ IsPair s7.heap TI (.ref i1) (.ref i2) ∧ s7.heap.IsListIter i1 a i ∧ s7.heap.IsListIter i2 b i) ∧ (∀ b ∈ [z, TI, TO, i1, i2], H' b = none) ∧ Pv i σ' H' ∧ i + m = min xs.length ys.length := fun {σ7 H7} I7 n7 => by
      have kk : ∀ c ∈ [z, TI, TO, i1, i2], ∀ o, h4.get? c = some o → s7.heap.get? c = some o := fun c hc o e => (I7.pin (c, o) (List.mem_append_right _ (List.mem_append_right _ (mem_pinsAt hc e)))).1
      obtain ⟨x5, y5, hO5⟩ := hO4
      have hZ : ZSt s7.heap H7 z TI TO := by
        rcases hT44 with e | ⟨zs, e⟩
        · exact .inr ⟨T4, f4, _, kk z (by simp) _ hz4, n7.2 _ _ (by rw [e]; exact upd_same)⟩
        · exact .inr ⟨T4, f4, zs, kk z (by simp) _ hz4, n7.2 _ _ (by rw [upd_ne (ne_of_none e hTf)]; exact e)⟩
      refine ⟨n, Nat.lt_succ_self _, i + 1, σ7, H7, I7.unpinned, ⟨hZ, ⟨x5, y5, kk TO (by simp) _ hO5⟩, kk TI (by simp) _ hI4, a4.at fun o q => kk i1 (by simp) o q, b4.at fun o q => kk i2 (by simp) o q⟩, fun c hc => ?_, n7.1, by omega⟩
      obtain ⟨o, e, d⟩ := obj5 c hc
      exact (I7.pin (c, o) (List.mem_append_right _ (List.mem_append_right _ (mem_pinsAt hc e)))).2.1
    cases f with
    | next => obtain ⟨σ7, H7, I7, n7⟩ := q7; exact again I7 n7
    | cont => obtain ⟨σ7, H7, I7, n7⟩ := q7; exact again I7 n7
    | brk => obtain ⟨σ7, H7, I7, q7⟩ := q7; exact ⟨σ7, H7, I7.unpinned, q7⟩
    | ret v => obtain ⟨x7, σ7, H7, I7, r7, q7⟩ := q7; exact ⟨x7, σ7, H7, I7.unpinned, r7, q7⟩
end
end TK
end
section
set_option Elab.async false
set_option linter.all false
set_option maxRecDepth 100000
set_option maxHeartbeats 8000000
/-! min of a list of pairs, repr of nested tuples, list(text), text * n, a call by keywords alone. -/
namespace TK
open PySem PySem.Spec L2
open PyProof.Rows PySem.W
def pD (p : Int × Int) : PyData := .tuple [.int p.1, .int p.2]
def iLe (p q : Int × Int) : Prop := p.1 < q.1 ∨ (p.1 = q.1 ∧ p.2 ≤ q.2)
theorem pD_inj {p q : Int × Int} (h : pD p = pD q) : p = q := by
  unfold pD at h
  injection h with h
  injection h with h1 h2
  injection h2 with h2 _
  injection h1 with h1
  injection h2 with h2
  exact Prod.ext h1 h2
theorem minD_pairs : ∀ (ps : List (Int × Int)) (p : Int × Int), ∃ m, minD (pD p) (ps.map pD) = pD m ∧ m ∈ p :: ps ∧ ∀ q ∈ p :: ps, iLe m q
  | [], p => ⟨p, rfl, List.mem_cons_self, fun q hq => by
    rw [List.mem_singleton.mp hq]
    exact .inr ⟨rfl, Int.le_refl _⟩⟩
  | a :: ps, p => by
    have e : minD (pD p) ((a :: ps).map pD) = minD (if dataLt (pD a) (pD p) then pD a else pD p) (ps.map pD) := rfl
    rw [e, show dataLt (pD a) (pD p) = decide (a.1 < p.1 ∨ (a.1 = p.1 ∧ a.2 < p.2)) from dataLt_ii _ _ _ _]
    by_cases h : a.1 < p.1 ∨ (a.1 = p.1 ∧ a.2 < p.2)
    · rw [decide_eq_true h, if_pos rfl]
      obtain ⟨m, e1, e2, e3⟩ := minD_pairs ps a
      refine ⟨m, e1, List.mem_cons_of_mem _ e2, fun q hq => ?_⟩
      rcases List.mem_cons.mp hq with z | z
      · subst z
        have := e3 a List.mem_cons_self
        unfold iLe at this ⊢
        omega
      · exact e3 q z
    · rw [decide_eq_false h, if_neg Bool.false_ne_true]
      obtain ⟨m, e1, e2, e3⟩ := minD_pairs ps p
      refine ⟨m, e1, ?_, fun q hq => ?_⟩
      · rcases List.mem_cons.mp e2 with z | z
        · exact z ▸ List.mem_cons_self
        · exact List.mem_cons_of_mem _ (List.mem_cons_of_mem _ z)
      · rcases List.mem_cons.mp hq with z | z
        · exact z ▸ e3 p List.mem_cons_self
        · rcases List.mem_cons.mp z with z | z
          · subst z
            have := e3 p List.mem_cons_self
            unfold iLe at this ⊢
            omega
          · exact e3 q (List.mem_cons_of_mem _ z)
theorem alike_pairs (ps : List (Int × Int)) : AlikeAll (ps.map pD) := by
  refine ⟨fun x hx y hy => ?_, fun x hx z => ?_⟩
  · obtain ⟨a, _, rfl⟩ := List.mem_map.mp hx
    obtain ⟨b, _, rfl⟩ := List.mem_map.mp hy
    simp [pD, alike, alikeAll]
  · obtain ⟨a, _, rfl⟩ := List.mem_map.mp hx
    cases z
theorem depth_pairs (ps : List (Int × Int)) : PyData.depthAll (ps.map pD) ≤ 10 := by
  induction ps with
  | nil => decide
  | cons a ps ih =>
    show max _ _ ≤ 10
    refine Nat.max_le.mpr ⟨?_, ih⟩
    show PyData.depth (pD a) ≤ 10
    simp [pD, PyData.depth, PyData.depthAll]
theorem dp_pair {K : PySem.W.Frag} {H : Hp} {b : Addr} {p : Int × Int} (h : SqT K H b [.int p.1, .int p.2]) : Dp K H (.ref b) (pD p) := .tup h (.cons (.int _) (.cons (.int _) .nil))
theorem dpAll_pairs {K : PySem.W.Frag} {H : Hp} {k : Addr → Int × Int} : ∀ {bs : List Addr}, (∀ b ∈ bs, SqT K H b [.int (k b).1, .int (k b).2]) → DpAll K H (bs.map V.ref) ((bs.map k).map pD)
  | [], _ => .nil
  | b :: bs, h => .cons (dp_pair (h b List.mem_cons_self)) (dpAll_pairs fun c hc => h c (List.mem_cons_of_mem _ hc))
section
variable {X : Cx}
/-- min of a list of pairs of ints: a place whose pair is least -/
theorem cr_minP (hc : X.calm = true) (hu : X.A.units + 64 < cLine) : CallR X (.builtin "min") (fun vs H Q => ∃ (a : Addr) (bs : List Addr) (k : Addr → Int × Int), vs = [.ref a] ∧ SqL X.K H a (bs.map V.ref) ∧
    (∀ b ∈ bs, SqT X.K H b [.int (k b).1, .int (k b).2]) ∧ bs ≠ [] ∧ ∀ b ∈ bs, (∀ c ∈ bs, iLe (k b) (k c)) → Q (.ref b) H) := by
  intro pins s σ H vs us Q I r h
  obtain ⟨a, bs, k, rfl, hs, hk, hne, q⟩ := h
  obtain ⟨its, rv, hl, _⟩ := I.list hs
  obtain ⟨as, ra⟩ := Dp.readsAll I _ _ its (dpAll_pairs hk) rv
  rw [Vals.ref1 r]
  obtain ⟨b0, bs', rfl⟩ : ∃ b bs', bs = b :: bs' := by
    cases bs with
    | nil => exact absurd rfl hne
    | cons b bs' => exact ⟨b, bs', rfl⟩
  have hd := depth_pairs ((b0 :: bs').map k)
  refine min_list_data (x := pD (k b0)) (xs := (bs'.map k).map pD) (I.ok.hd hc) hl.isList (by simpa using ra) (alike_pairs ((b0 :: bs').map k)) (by
    have e : PyData.depthAll (pD (k b0) :: (bs'.map k).map pD) ≤ 10 := hd
    omega) fun i v h' tk cs hv rd kp => ?_
  obtain ⟨m, em, hm, hle⟩ := minD_pairs (bs'.map k) (k b0)
  rw [em] at rd
  -- the item at i
  have hi : i < its.length := by
    have := (Array.getElem?_eq_some_iff.mp hv).1
    simpa using this
  have hi2 : i < (b0 :: bs').length := by
    have := rv.length
    rw [List.length_map] at this
    omega
  obtain ⟨u, hu2, ru⟩ := rv.get (i := i) (x := .ref (b0 :: bs')[i]) (by rw [List.getElem?_map, List.getElem?_eq_getElem hi2]; rfl)
  have euv : v = u := by
    rw [List.getElem?_toArray] at hv
    exact Option.some.inj (hv.symm.trans hu2)
  cases ru
  subst euv
  have hmem : (b0 :: bs')[i] ∈ b0 :: bs' := List.getElem_mem _
  obtain ⟨es, r2⟩ := Dp.reads I _ _ _ (dp_pair (hk _ hmem)) (show L2.RelV (.ref (b0 :: bs')[i]) _ from rfl)
  have ed := (reads_det (fun b o g _ => kp b o g) r2 rd).1
  have ek : k (b0 :: bs')[i] = m := (pD_inj ed).symm
  refine ⟨.ref (b0 :: bs')[i], H, I.kept (t' := tk) kp, rfl, q _ hmem fun c hc' => ?_⟩
  rw [ek]
  exact hle _ (List.mem_map_of_mem (f := k) hc')
/-- repr of data at any depth, where nothing is on its way to be shown -/
theorem cr_reprD (hg : X.A.guards = some []) (hu : X.A.units + 64 < cLine) : CallR X (.builtin "repr") (fun vs H Q => ∃ (a : Addr) (d : PyData), vs = [.ref a] ∧ Dp X.K H (.ref a) d ∧ d.showable = true ∧ d.hasDict = false ∧ d.depth ≤ 40 ∧ d.shown.length ≤ sizeLine ∧ Q (.str d.shown) H) := by
  intro pins s σ H vs us Q I r h
  obtain ⟨a, d, rfl, hd, h1, h2, h3, h4, q⟩ := h
  obtain ⟨u, rfl, rx⟩ := vals1 r
  obtain ⟨as, rd⟩ := Dp.reads I d _ _ hd rx
  cases rx
  refine repr_of_reads' rd h1 (fun z => by rw [h2] at z; cases z) hg (by omega) (fun _ _ e => e) (fun h' u tk kp => ?_) h4
  exact ⟨.str d.shown, H, I.kept (t' := tk) kp, ⟨_, rfl⟩, q⟩
/-- text * n -/
theorem op_mulS : OpR X (binaryOp .Mult) (fun x y H Q => ∃ z n, x = .str z ∧ y = .int n ∧ MulOk z n ∧ Q (.str (Txt.mul z n)) H) := by
  intro pins s σ H x y v u Q I rx ry h
  obtain ⟨z, n, rfl, rfl, hm, q⟩ := h
  obtain ⟨t, rfl⟩ := rx
  obtain ⟨t', rfl⟩ := ry
  exact SB.mul hm fun t' k => ⟨.str _, H, I.tok _, ⟨_, rfl⟩, q⟩
/-- list(text) -/
def signsV (z : Str) : List V := z.cps.toList.map fun c => .str ⟨#[c]⟩
theorem signs_vals {z : Str} {acc : Array Value} (h : ItemsOf (SignAt z) acc z.cps.size) : Vals (signsV z) acc.toList := by
  obtain ⟨hs, hi⟩ := h
  have key : ∀ (l : List Nat) (us : List Value), l.length = us.length → (∀ (j : Nat) v, us[j]? = some v → ∃ c t, l[j]? = some c ∧ v = Value.str ⟨#[c]⟩ t) → Vals (l.map fun c => .str ⟨#[c]⟩) us := by
    intro l
    induction l with
    | nil =>
      intro us hl _
      cases us with
      | nil => exact .nil
      | cons _ _ => cases hl
    | cons c l ih =>
      intro us hl hv
      cases us with
      | nil => cases hl
      | cons u us =>
        obtain ⟨c', t, e1, e2⟩ := hv 0 u rfl
        have e3 : c = c' := Option.some.inj e1
        subst e3
        exact .cons (show L2.RelV (.str ⟨#[c]⟩) u from ⟨t, e2⟩) (ih us (Nat.succ.inj hl) fun j v q => hv (j + 1) v q)
  refine key z.cps.toList acc.toList (by simp [hs]) fun j v hv => ?_
  obtain ⟨c, t, e1, e2⟩ := hi j v (by rw [← Array.getElem?_toList]; exact hv)
  exact ⟨c, t, by rw [Array.getElem?_toList]; exact e1, e2⟩
theorem cr_listS (hc : X.calm = true) : CallR X (.type "list") (fun vs H Q => ∃ z : Str, vs = [.str z] ∧ z.length ≤ sizeLine ∧ ∀ p, H p = none → Q (.ref p) (upd H p (.lst (signsV z)))) := by
  intro pins s σ H vs us Q I r h
  obtain ⟨z, rfl, hz, q⟩ := h
  obtain ⟨u, rfl, rx⟩ := vals1 r
  obtain ⟨t, rfl⟩ := rx
  have hn : H s.heap.objs.size = none := I.hok.fresh (Nat.le_refl _)
  refine call_list_str (hn := hz) (I.ok.hd hc) z t fun h' tk acc c' kp hS hacc => ?_
  have new : ObjOk X.prog X.w (upd H s.heap.objs.size (.lst (signsV z))) h' s.heap.objs.size (.lst (signsV z)) :=
    ⟨by unfold signsV; rw [List.length_map, Array.length_toList]; exact hz, acc.toList, c', signs_vals hacc, by simpa using hS⟩
  exact ⟨.ref _, _, I.laid (t' := tk) kp (Nat.le_refl _) new, rfl, q _ hn⟩
end
section
variable {X : Cx} {CX : CXT} {E : XK} {k : Nat} {f : Addr} {fd : FuncData} {ps ks : List Str} {sp : Sp} {g : List Value → List Value → List Value} {gV : List V → List V → List V} {tk : TA} {x : Str} {kws : List Keyword} {p pos : Pos}
/-- f(k = v, ..), nothing by place -/
theorem pe_callK0 (F : FnOk X.prog X.w X.K X.mg X.base CX k f fd ps sp) (hr : Room k X.A) (hg : Gl X x) (hm : X.mg x = some (.ref f)) (hk : PySem.W.keepIn X.K (.ref f) = true) (hb : KBinds X.K fd ps ks g gV) (hx : Passes CX X E)
    (hkw : PK X kws tk) (hall : (backToKw pos (keywordEach kws X.env)).all (·.1.isSome) = true := by rfl) (hks : (backToKw pos (keywordEach kws X.env)).filterMap (·.1) = ks := by rfl)
    (hdb : (x == ("__debug__" : Str)) = false := by decide)
    (hpl : ((backTo pos (starEach [] X.env)).any (·.1) || (backToKw pos (keywordEach kws X.env)).any (·.1.isNone)) = false := by rfl) :
    PE X (.Call (.Name x p) [] kws pos) (fun σ H Q => tk σ H fun zs H2 => sp (gV [] zs) H2 Q E) := by
  refine ⟨fun pins s σ H Q I h => ?_⟩
  refine wpAny_Call_Name_kw (ld_glob I hg hm ?_ hdb)
  refine PySem.W.callWith_KW0 (h₀ := X.base) I.ok.mod.kin hk hall ?_ hpl
  refine thn (hkw.run pos pins s σ H _ I h) fun ws s2 ⟨zs, H2, I2, rz, q2⟩ => ⟨I2.kIn, ?_⟩
  rw [hks]
  exact run_fnk F hr hb hx I2 .nil rz q2
end
end TK
end
section
set_option Elab.async false
set_option linter.all false
set_option maxRecDepth 100000
set_option maxHeartbeats 8000000
/-! The program's defs by their place at the top; a def that keeps a promise; how the mathematics stands in a heap. -/
namespace TK
open PySem PySem.Spec L2
open PyProof.Rows
def topS (i : Nat) : Stmt := PySem.Challenge.pw_draftward_k03_whole_training_by_own_coun.main.body.getD i (.Pass ⟨0, 0, 0, 0⟩)
/-- the def named x keeps the promise sp -/
structure Keeps (P : Program) (w : World) (K : PySem.W.Frag) (mg : Str → Option Value) (base : Heap) (k : Nat) (x : Str) (ps : List Str) (sp : Sp) : Prop where
  ex : ∃ f fd, mg x = some (.ref f) ∧ PySem.W.keepIn K (.ref f) = true ∧ Binds K fd ps [] ∧ FnOk P w K mg base CX0 k f fd ps sp
theorem Keeps.mono {P : Program} {w : World} {K : PySem.W.Frag} {mg : Str → Option Value} {base : Heap} {j k : Nat} {x : Str} {ps : List Str} {sp : Sp} (c : Keeps P w K mg base j x ps sp) (h : j ≤ k) : Keeps P w K mg base k x ps sp :=
  let ⟨f, fd, h1, h2, h3, h4⟩ := c.ex
  ⟨f, fd, h1, h2, h3, h4.mono h⟩
/-- where the def stands: its address, its text -/
structure At (K : PySem.W.Frag) (mg : Str → Option Value) (x : Str) (st : Stmt) (f : Addr) (fd : FuncData) : Prop where
  mg : mg x = some (.ref f)
  fn : Fun K x x st f fd
section
variable {P : Program} {w : World} {K : PySem.W.Frag} {mg : Str → Option Value} {base : Heap} {x : Str} {st : Stmt} {f : Addr} {fd : FuncData} {N ps : List Str} {k : Nat} {sp : Sp}
theorem At.keeps (F : At K mg x st f fd) (S : FnScope N ps (defScope st)) (hb : Binds K fd ps []) (len : ∀ vs H Q E, sp vs H Q E → vs.length = ps.length)
    (hbody : ∀ (cdv : Value) (A : Around) (outer : List Env) (s : Shared) (H : Hp) (vs : List V) (Q : VK) (E : XK), Room k (A.deeper (envOfC x (defScope st) s.heap.objs.size f cdv)) → sp vs H Q E →
      ∃ t, PSs (cxOf CX0 P w K mg base N x (defScope st) f cdv A outer s H E).nox (defBody st) t ∧ t { nx := fun _ H' => Q .non H', rt := Q } (start N vs) H) : Keeps P w K mg base (k + 1) x ps sp :=
  ⟨f, fd, F.mg, F.fn.kp, hb, F.fn.ok S len hbody⟩
end
section
variable {X : Cx} {k : Nat} {x : Str} {ps : List Str} {sp : Sp} {p pos : Pos} {e : Expr} {es : List Expr} {t : TA}
/-- a call of it -/
theorem pe_def (c : Keeps X.prog X.w X.K X.mg X.base k x ps sp) (hr : Room k X.A) (hg : Gl X x) (ha : PA X (e :: es) t) (hdb : (x == ("__debug__" : Str)) = false := by decide)
    (he : starEach (e :: es) X.env = (false, eval e X.env) :: starEach es X.env := by rfl) (hpl : (backTo pos (starEach es X.env)).any (·.1) = false := by rfl) :
    PE X (.Call (.Name x p) (e :: es) [] pos) (tCall sp [] E0 t) :=
  let ⟨_, _, h1, h2, h3, h4⟩ := c.ex
  pe_call h4 hr hg h1 h2 h3 .nil pass0 ha hdb he hpl
end
/-! ### the mathematics in a heap -/
def sT (l : List Nat) : Str := ⟨l.toArray⟩
def sV (l : List Nat) : V := .str (sT l)
def nV (n : Nat) : V := .int (n : Int)
def rowV (r : List Nat) : List V := r.map nV
def pairV (p : P2) : List V := [nV p.1, nV p.2]
theorem sT_len (l : List Nat) : (sT l).length = l.length := by show l.toArray.size = _; simp
theorem sT_inj {a b : List Nat} (h : sT a = sT b) : a = b := by
  have : a.toArray = b.toArray := by injection h
  simpa using congrArg Array.toList this
theorem sT_app (a b : List Nat) : sT a ++ sT b = sT (a ++ b) := by
  show (⟨a.toArray ++ b.toArray⟩ : Str) = ⟨(a ++ b).toArray⟩
  simp
theorem Same.tup {K : PySem.W.Frag} {H H' : Hp} {a : Addr} {xs : List V} (e : Same H H') (h : SqT K H a xs) : SqT K H' a xs := by
  rcases h with (h | ⟨o, h⟩) | h
  · exact .inl (.inl (e _ _ h))
  · exact .inl (.inr ⟨o, e _ _ h⟩)
  · exact .inr h
theorem Same.new {H : Hp} {p : Addr} {o : HO} (h : H p = none) : Same H (upd H p o) := fun b x e => by
  rw [upd_ne (ne_of_none e h)]
  exact e
/-- pairs at bs -/
def Prs (K : PySem.W.Frag) (H : Hp) (bs : List Addr) (ms : List P2) : Prop := bs.length = ms.length ∧ ∀ (i : Nat) b m, bs[i]? = some b → ms[i]? = some m → SqT K H b (pairV m)
/-- a vocabulary at a -/
def Voc (K : PySem.W.Frag) (H : Hp) (a : Addr) (ls : List Nat) (ms : List P2) : Prop :=
  ∃ m bs, SqT K H a [.str "vocabulary", sV ls, .ref m] ∧ SqT K H m (bs.map V.ref) ∧ Prs K H bs ms
theorem Prs.same {K : PySem.W.Frag} {H H' : Hp} {bs : List Addr} {ms : List P2} (h : Prs K H bs ms) (e : Same H H') : Prs K H' bs ms := ⟨h.1, fun i b m h1 h2 => Same.tup e (h.2 i b m h1 h2)⟩
theorem Voc.same {K : PySem.W.Frag} {H H' : Hp} {a : Addr} {ls : List Nat} {ms : List P2} (h : Voc K H a ls ms) (e : Same H H') : Voc K H' a ls ms :=
  let ⟨m, bs, h1, h2, h3⟩ := h
  ⟨m, bs, Same.tup e h1, Same.tup e h2, h3.same e⟩
/-- letters of a vocabulary -/
structure Lets (ls : List Nat) : Prop where
  pos : 1 ≤ ls.length
  most : ls.length ≤ 6
  low : ∀ c ∈ ls, 97 ≤ c ∧ c ≤ 122
  nd : ls.Nodup
/-- a vocabulary that stands the check -/
structure Good (ls : List Nat) (ms : List P2) : Prop where
  lts : Lets ls
  few : ms.length ≤ 10
  ok : MsOk ls.length ms
  nd : (pcs ls ms).Nodup
theorem line_small {n : Nat} (h : n ≤ 1000000) : n ≤ sizeLine := by rw [sizeLine_eq]; omega
theorem line_lt {n : Nat} (h : n ≤ 1000000) : n < sizeLine := by rw [sizeLine_eq]; omega
/-! ### isinstance of a built-in type; comprehensions that keep the heap -/
theorem tyT {K : PySem.W.Frag} {H : Hp} {a : Addr} {xs : List V} (h : SqT K H a xs) : TyX K H (.ref a) (.type "tuple") := by
  rcases h with (h | ⟨o, h⟩) | ⟨o, its, n, h1, h2, h3⟩
  · exact .base (.tup h)
  · exact .fTuple h
  · exact .kTuple h1 h2
section
variable {X : Cx}
abbrev tIsi (K : PySem.W.Frag) (n : String) (te : TE) : TE := tCB (rIsi K) (tCons te (tCons (tC (.ty n)) tNil))
theorem pe_isi {e : Expr} {te : TE} {p q pos : Pos} {n : String} (hg : Gl X "isinstance") (hm : X.mg "isinstance" = none) (hgn : Gl X (Str.ofString n)) (hmn : X.mg (Str.ofString n) = none) (hv : bootBuiltins (Str.ofString n) = some (.type n)) (he : PE X e te)
    (h1 : starEach (e :: [.Name (Str.ofString n) q]) X.env = (false, eval e X.env) :: starEach [.Name (Str.ofString n) q] X.env := by rfl)
    (hn : Str.ofString n ≠ "__name__" := by decide) (hd : (Str.ofString n == ("__debug__" : Str)) = false := by decide)
    (h2 : (backTo pos (starEach [.Name (Str.ofString n) q] X.env)).any (·.1) = false := by rfl) :
    PE X (.Call (.Name "isinstance" p) [e, .Name (Str.ofString n) q] [] pos) (tIsi X.K n te) :=
  pe_callB call_isi hg hm (by decide +kernel) (pa_cons he (pa_cons (pe_bltn hgn hmn hv (v := .ty n) rfl hn hd) pa_nil) h1) (by decide) (by decide) h1 h2
theorem rd_isi {K : PySem.W.Frag} {n t : String} {x : V} {H : Hp} {Q : VK} (b : Bool) (ty : TyX K H x (.type t)) (h : kitB t n = some b) (q : Q (.bl b) H) : rIsi K [x, .ty n] H Q :=
  ⟨x, .ty n, _, _, b, rfl, .ty n, ty, kit_ty h, q⟩
end
/-- a list made item by item, all else as it was -/
theorem lc_map {J : It} {n : Nat} {G : Hp → Prop} {Y : Nat → Hp → V → Hp → Prop} (w : Walk J n G Y) {k : Nat} {te : TE} {vs : List Nat} {σ : L2.St} {H1 : Hp} {D : Addr} {Qd : Hp → Prop} (ys : List V) (hn : ys.length = n) (hz : n ≤ 1000000) (hD : H1 D = none)
    (hG : ∀ H, Same H1 H → G H) (hw : ∀ x, wipe ((wipe σ vs).set k (some x)) vs = wipe σ vs)
    (hs : ∀ i x H H' y, ys[i]? = some y → Same H1 H → Y i H x H' → ∀ Q : VK, (∀ H4, Same H H4 → Q y H4) → te ((wipe σ vs).set k (some x)) H' Q)
    (hd : ∀ H, Same H1 H → H D = some (.lst ys) → Qd H) :
    ∃ W : Nat → Nat → Hp → Prop, (∃ m, W 0 m (upd H1 D (.lst []))) ∧ ∀ i m H, W i m H →
      (J.stop i H ∧ Qd H) ∨ (J.go i H ∧ ∃ Nx : Hp → Prop, (∀ H', Nx H' → ∃ m', m' < m ∧ W (i + 1) m' H') ∧ ∀ x H', J.yld i H x H' → gName k x (wipe σ vs) H' fun σ2 H2 => wipe σ2 vs = wipe σ vs ∧ tYes σ2 H2 fun b H3 =>
        if b = true then te σ2 H3 fun y H4 => ∃ acc, H4 D = some (.lst acc) ∧ acc.length < sizeLine ∧ Nx (upd H4 D (.lst (acc ++ [y]))) else Nx H3) := by
  subst hn
  refine lc_it w (fun i H => Same H1 H ∧ H D = some (.lst (ys.take i))) ⟨Same.new hD, upd_same⟩ (fun i H _ h => hG H h.1) (fun i x H H' hi h y => ?_) fun H h => hd H h.1 (by rw [h.2, List.take_length])
  obtain ⟨h1, h2⟩ := h
  have hy : ys[i]? = some ys[i] := List.getElem?_eq_getElem hi
  refine ⟨hw x, ?_⟩
  unfold tYes
  simp only [if_true]
  refine hs i x H H' _ hy h1 y _ fun H4 s4 => ⟨ys.take i, s4 _ _ h2, ?_, fun b o e => ?_, ?_⟩
  · rw [List.length_take]
    exact line_lt (by omega)
  · have hb : b ≠ D := ne_of_none e hD
    rw [upd_ne hb]
    exact s4 _ _ (h1 _ _ e)
  · rw [upd_same, List.take_add_one, hy]
    rfl
end TK
end
section
set_option Elab.async false
set_option linter.all false
set_option maxRecDepth 100000
set_option maxHeartbeats 8000000
/-! The walk, first part: the checks of numbers, letters, pairs. -/
namespace TK
open PySem PySem.Spec L2
open PyProof.Rows
def bltNames : List Str := ["isinstance", "int", "bool", "str", "tuple", "len", "set", "all", "list", "enumerate", "sorted", "zip", "min", "max", "range", "repr"]
/-- what the program's names stand for, beside its defs -/
structure Names (mg : Str → Option Value) : Prop where
  blt : ∀ x ∈ bltNames, mg x = none
  small : ∃ t, mg "SMALL" = some (.str "abcdefghijklmnopqrstuvwxyz" t)
  voc : ∃ t, mg "VOCABULARY" = some (.str "vocabulary" t)
  letters : ∃ t, mg "MOST_LETTERS" = some (.int 6 t)
  merges : ∃ t, mg "MOST_MERGES" = some (.int 10 t)
theorem iteD {c A B : Prop} [Decidable c] (hc : c) (h : A) : if decide c = true then A else B := by
  rw [decide_eq_true hc]
  exact iteT h
theorem iteN {c A B : Prop} [Decidable c] (hc : ¬ c) (h : B) : if decide c = true then A else B := by
  rw [decide_eq_false hc]
  exact iteF h
theorem iteND {c A B : Prop} [Decidable c] (hc : c) (h : B) : if (!decide c) = true then A else B := by
  rw [decide_eq_true hc]
  exact iteF h
theorem iteNN {c A B : Prop} [Decidable c] (hc : ¬ c) (h : A) : if (!decide c) = true then A else B := by
  rw [decide_eq_false hc]
  exact iteT h
theorem small_has {c : Nat} (h : 97 ≤ c ∧ c ≤ 122) : c ∈ (Str.ofString "abcdefghijklmnopqrstuvwxyz").cps.toList := by
  have e : (Str.ofString "abcdefghijklmnopqrstuvwxyz").cps.toList = [97, 98, 99, 100, 101, 102, 103, 104, 105, 106, 107, 108, 109, 110, 111, 112, 113, 114, 115, 116, 117, 118, 119, 120, 121, 122] := by decide +kernel
  rw [e]
  have : c = 97 ∨ c = 98 ∨ c = 99 ∨ c = 100 ∨ c = 101 ∨ c = 102 ∨ c = 103 ∨ c = 104 ∨ c = 105 ∨ c = 106 ∨ c = 107 ∨ c = 108 ∨ c = 109 ∨ c = 110 ∨ c = 111 ∨ c = 112 ∨ c = 113 ∨ c = 114 ∨ c = 115 ∨ c = 116 ∨ c = 117 ∨ c = 118 ∨ c = 119 ∨ c = 120 ∨ c = 121 ∨ c = 122 := by omega
  simpa using this
theorem all_true (n : Nat) : (List.replicate n true).all id = true := by simp
section
variable {P : Program} {w : World} {K : PySem.W.Frag} {mg : Str → Option Value} {base : Heap}
/-! ### is_integer -/
abbrev st_is_integer : Stmt := topS 12
theorem sc_is_integer : FnScope ["thing"] ["thing"] (defScope st_is_integer) := ⟨rfl, rfl, rfl, by decide +kernel, rfl, by decide +kernel, by decide +kernel⟩
def sp_is_integer : Sp := fun vs H Q _ => ∃ i : Int, vs = [.int i] ∧ Q (.bl true) H
theorem k_is_integer {f : Addr} {fd : FuncData} (G : Names mg) (F : At K mg "is_integer" st_is_integer f fd) (b : Binds K fd ["thing"] []) : Keeps P w K mg base 1 "is_integer" ["thing"] sp_is_integer := by
  refine F.keeps sc_is_integer b (fun vs H Q E h => ?_) (fun cdv A outer s H vs Q E hr h => ?_)
  · obtain ⟨i, rfl, _⟩ := h
    rfl
  obtain ⟨i, rfl, q⟩ := h
  refine ⟨_, pss_one (ps_ret (pe_and (pe_isi (n := "int") (by rfl) (G.blt _ (by decide)) (by rfl) (G.blt _ (by decide)) boot_int (pv 0)) (pe_one (pe_not (pe_isi (n := "bool") (by rfl) (G.blt _ (by decide)) (by rfl) (G.blt _ (by decide)) boot_bool (pv 0)))))), ?_⟩
  exact ⟨_, rfl, _, _, _, _, true, rfl, .ty _, .base (.int i), kit_ty (by decide +kernel), true, rfl, iteT ⟨_, rfl, _, _, _, _, false, rfl, .ty _, .base (.int i), kit_ty (by decide +kernel), false, rfl, q⟩⟩
/-! ### is_from -/
abbrev st_is_from : Stmt := topS 13
theorem sc_is_from : FnScope ["thing", "least"] ["thing", "least"] (defScope st_is_from) := ⟨rfl, rfl, rfl, by decide +kernel, rfl, by decide +kernel, by decide +kernel⟩
def sp_is_from : Sp := fun vs H Q _ => ∃ i l : Int, vs = [.int i, .int l] ∧ Q (.bl (decide (l ≤ i))) H
theorem k_is_from {f : Addr} {fd : FuncData} (F : At K mg "is_from" st_is_from f fd) (b : Binds K fd ["thing", "least"] []) (k1 : Keeps P w K mg base 1 "is_integer" ["thing"] sp_is_integer) : Keeps P w K mg base 2 "is_from" ["thing", "least"] sp_is_from := by
  refine F.keeps sc_is_from b (fun vs H Q E h => ?_) (fun cdv A outer s H vs Q E hr h => ?_)
  · obtain ⟨i, l, rfl, _⟩ := h
    rfl
  obtain ⟨i, l, rfl, q⟩ := h
  refine ⟨_, pss_one (ps_ret (pe_and (pe_def k1 hr (by rfl) (pa_cons (pv 0) pa_nil)) (pe_one (pe_cmpR op_ge (pv 0) (pv 1) (nomark _))))), ?_⟩
  exact ⟨_, rfl, i, rfl, true, rfl, iteT ⟨_, rfl, _, rfl, i, l, rfl, rfl, q⟩⟩
/-! ### are_letters -/
abbrev st_are_letters : Stmt := topS 14
theorem sc_are_letters : FnScope ["thing", "sign"] ["thing"] (defScope st_are_letters) := ⟨rfl, rfl, rfl, by decide +kernel, rfl, by decide +kernel, by decide +kernel⟩
def sp_are_letters : Sp := fun vs H Q _ => ∃ ls : List Nat, vs = [sV ls] ∧ Lets ls ∧ ∀ H', Same H H' → Q (.bl true) H'
theorem k_are_letters {f : Addr} {fd : FuncData} (G : Names mg) (F : At K mg "are_letters" st_are_letters f fd) (b : Binds K fd ["thing"] []) : Keeps P w K mg base 1 "are_letters" ["thing"] sp_are_letters := by
  refine F.keeps sc_are_letters b (fun vs H Q E h => ?_) (fun cdv A outer s H vs Q E hr h => ?_)
  · obtain ⟨ls, rfl, _⟩ := h
    rfl
  obtain ⟨ls, rfl, L, q⟩ := h
  obtain ⟨tS, gS⟩ := G.small
  obtain ⟨tL, gL⟩ := G.letters
  refine ⟨_, pss_cons (ps_if (PW.pt (pw_or (pt_not (pt_val (pe_isi (n := "str") (by rfl) (G.blt _ (by decide)) (by rfl) (G.blt _ (by decide)) boot_str (pv 0))))
      (pw_or1 (pt_not (pt_chain op_le op_le pe_int (pe_callB call_len_str (by rfl) (G.blt _ (by decide)) PySem.boot_len (pa_cons (pv 0) pa_nil)) (pe_glob (v := .int 6) (by rfl) gL ⟨_, rfl⟩)))))) (pss_one (ps_ret pe_bl)) pss_nil)
    (pss_one (ps_ret (pe_and (pe_callB (cr_all rfl) (by rfl) (G.blt _ (by decide)) (by decide +kernel) (pa_cons (pe_lc (own := [("sign", 1)]) (g := gName 1) (tt := tYes) rfl sc_are_letters.nd (pi_str (pv 0)) (blkOk_by (N := ["thing", "sign"]) (sc := defScope st_are_letters) (by decide +kernel))
        (fun _ _ _ _ _ => pg_name (i := 1) sc_are_letters.nd rfl (.inl rfl)) (fun _ _ _ _ _ => pts_nil) (fun _ _ _ _ _ => pe_cmpR op_in_sign (pv 1) (pe_glob (v := .str "abcdefghijklmnopqrstuvwxyz") (by rfl) gS ⟨_, rfl⟩) (by rfl))) pa_nil))
      (pe_one (pe_cmpR op_eq (pe_callB cr_lenS (by rfl) (G.blt _ (by decide)) PySem.boot_len (pa_cons (pe_callTy (cr_setS rfl) (by rfl) (G.blt _ (by decide)) boot_set (pa_cons (pv 0) pa_nil)) pa_nil)) (pe_callB call_len_str (by rfl) (G.blt _ (by decide)) PySem.boot_len (pa_cons (pv 0) pa_nil)) (nomark _)))))), ?_⟩
  have hl := sT_len ls
  have h1 := L.pos
  have h6 := L.most
  have hz : (sT ls).length ≤ sizeLine := by rw [hl]; exact line_small (by omega)
  refine ⟨_, rfl, _, _, _, _, true, rfl, .ty _, .base (.str _), kit_ty (by decide +kernel), true, rfl, ?_⟩
  refine iteF ⟨_, rfl, sT ls, rfl, hz, _, _, rfl, rfl, _, rfl, iteD (by rw [hl]; omega) ⟨_, _, rfl, rfl, _, rfl, ?_⟩⟩
  refine iteND (by rw [hl]; omega) ?_
  refine ⟨_, rfl, sT ls, rfl, fun D hD => ?_⟩
  refine lc_map (walk_str (z := sT ls)) ((List.replicate ls.length true).map V.bl) (by rw [List.length_map, List.length_replicate]; exact hl.symm) (by show (sT ls).length ≤ _; omega) hD (fun _ _ => trivial) (fun _ => rfl) (fun i x H2 H3 y hy s2 Y R k => ?_) fun H2 s2 e2 => ?_
  · obtain ⟨rfl, c, hc, rfl⟩ := Y
    refine ⟨_, rfl, c, _, rfl, rfl, ?_⟩
    have hm : c ∈ ls := by
      have hc2 : ls.toArray[i]? = some c := hc
      exact List.mem_of_getElem? (by simpa using hc2)
    have ey : y = .bl true := by
      rw [List.getElem?_map, List.getElem?_replicate] at hy
      split at hy
      · exact (Option.some.inj hy).symm
      · cases hy
    rw [decide_eq_true (small_has (L.low c hm)), ← ey]
    exact k _ (Same.refl _)
  · refine ⟨D, _, rfl, .inl (.inl e2), true, congrArg V.bl (all_true _), iteT ?_⟩
    refine ⟨_, rfl, .inl ⟨sT ls, rfl, by rw [hl]; omega, fun p ks hp nd hk => ?_⟩⟩
    refine ⟨p, ks, rfl, upd_same, _, rfl, sT ls, rfl, hz, rfl, ?_⟩
    have e3 : ks.length = (sT ls).length := by
      rw [hl]
      have hp2 : ks.Perm (ls.map fun c => (⟨#[c]⟩ : Str)) := by
        refine (List.perm_ext_iff_of_nodup nd ?_).mpr fun y => ?_
        · unfold List.Nodup
          rw [List.pairwise_map]
          exact L.nd.imp fun {a b} hab e => hab (by
            injection e with e
            simpa using e)
        · rw [hk, List.mem_map]
          show (∃ c ∈ ls.toArray.toList, _) ↔ _
          rw [List.toList_toArray]
          exact ⟨fun ⟨c, h1, h2⟩ => ⟨c, h1, h2.symm⟩, fun ⟨c, h1, h2⟩ => ⟨c, h1, h2.symm⟩⟩
      rw [hp2.length_eq, List.length_map]
    rw [e3, decide_eq_true rfl]
    exact q _ (s2.trans (Same.new hp))
end
end TK
end
section
set_option Elab.async false
set_option linter.all false
set_option maxRecDepth 100000
set_option maxHeartbeats 8000000
/-! The walk, second part: pairs, sizes, pieces. -/
namespace TK
open PySem PySem.Spec L2
open PyProof.Rows
theorem at0 {α : Type} {x : α} {xs : List α} : atI (x :: xs) 0 = some x := atI_nat (j := 0) rfl
theorem at1 {α : Type} {x y : α} {xs : List α} : atI (x :: y :: xs) 1 = some y := atI_nat (j := 1) rfl
theorem at2 {α : Type} {x y z : α} {xs : List α} : atI (x :: y :: z :: xs) 2 = some z := atI_nat (j := 2) rfl
theorem sV_nil : sV [] = .str (Str.ofString "") := by decide +kernel
theorem signsV_sT (ls : List Nat) : signsV (sT ls) = ls.map fun c => sV [c] := by
  unfold signsV
  show (ls.toArray.toList.map _) = _
  rw [List.toList_toArray]
  rfl
section
variable {P : Program} {w : World} {K : PySem.W.Frag} {mg : Str → Option Value} {base : Heap}
/-! ### is_pair_below -/
abbrev st_is_pair_below : Stmt := topS 15
theorem sc_is_pair_below : FnScope ["thing", "most", "item"] ["thing", "most"] (defScope st_is_pair_below) := ⟨rfl, rfl, rfl, by decide +kernel, rfl, by decide +kernel, by decide +kernel⟩
def sp_is_pair_below (K : PySem.W.Frag) : Sp := fun vs H Q _ => ∃ (b : Addr) (p : P2) (n : Nat), vs = [.ref b, nV n] ∧ SqT K H b (pairV p) ∧ (1 ≤ p.1 ∧ p.1 < n) ∧ (1 ≤ p.2 ∧ p.2 < n) ∧ ∀ H', Same H H' → Q (.bl true) H'
theorem k_is_pair_below {f : Addr} {fd : FuncData} (G : Names mg) (F : At K mg "is_pair_below" st_is_pair_below f fd) (b : Binds K fd ["thing", "most"] []) (k1 : Keeps P w K mg base 2 "is_from" ["thing", "least"] sp_is_from) :
    Keeps P w K mg base 3 "is_pair_below" ["thing", "most"] (sp_is_pair_below K) := by
  refine F.keeps sc_is_pair_below b (fun vs H Q E h => ?_) (fun cdv A outer s H vs Q E hr h => ?_)
  · obtain ⟨b, p, n, rfl, _⟩ := h
    rfl
  obtain ⟨b, p, n, rfl, hb, h1, h2, q⟩ := h
  refine ⟨_, pss_cons (ps_if (PW.pt (pw_or (pt_not (pt_val (pe_isi (n := "tuple") (by rfl) (G.blt _ (by decide)) (by rfl) (G.blt _ (by decide)) boot_tuple (pv 0))))
      (pw_or1 (pt_cmpR op_ne (pe_callB call_len_seq (by rfl) (G.blt _ (by decide)) PySem.boot_len (pa_cons (pv 0) pa_nil)) pe_int (nomark _))))) (pss_one (ps_ret pe_bl)) pss_nil)
    (pss_one (ps_ret (pe_callB (cr_all rfl) (by rfl) (G.blt _ (by decide)) (by decide +kernel) (pa_cons (pe_lc (own := [("item", 2)]) (g := gName 2) (tt := tYes) rfl sc_is_pair_below.nd (pi_tup (pv 0)) (blkOk_by (N := ["thing", "most", "item"]) (sc := defScope st_is_pair_below) (by decide +kernel))
        (fun _ _ _ _ _ => pg_name (i := 2) sc_is_pair_below.nd rfl (.inl rfl)) (fun _ _ _ _ _ => pts_nil) (fun _ _ _ _ _ => pe_and (pe_def k1 hr (by rfl) (pa_cons (pv 2) (pa_cons pe_int pa_nil))) (pe_one (pe_cmpR op_lt (pv 2) (pv 1) (nomark _))))) pa_nil)))), ?_⟩
  refine ⟨_, rfl, _, _, _, _, true, rfl, .ty _, tyT hb, kit_ty (by decide +kernel), true, rfl, ?_⟩
  refine iteF ⟨_, rfl, b, pairV p, rfl, .inr hb, rfl, _, rfl, iteND rfl ?_⟩
  refine ⟨_, rfl, b, rfl, ⟨_, hb⟩, fun D hD => ?_⟩
  refine lc_map (walk_tup (xs := pairV p)) [.bl true, .bl true] rfl (by show 2 ≤ 1000000; decide) hD (fun _ s2 => Same.tup s2 hb) (fun _ => rfl) (fun i x H2 H3 y hy s2 Y R k => ?_) fun H2 s2 e2 => ?_
  · obtain ⟨rfl, hx⟩ := Y
    have hm : ∃ m : Nat, x = nV m ∧ 1 ≤ m ∧ m < n ∧ y = .bl true := by
      match i, hx, hy with
      | 0, hx, hy => exact ⟨p.1, (Option.some.inj hx).symm, h1.1, h1.2, (Option.some.inj hy).symm⟩
      | 1, hx, hy => exact ⟨p.2, (Option.some.inj hx).symm, h2.1, h2.2, (Option.some.inj hy).symm⟩
    obtain ⟨m, rfl, m1, m2, rfl⟩ := hm
    refine ⟨_, rfl, _, 1, rfl, _, rfl, iteD (by omega) ⟨_, rfl, _, rfl, _, _, rfl, rfl, ?_⟩⟩
    show R (.bl (decide ((m : Int) < n))) H3
    rw [decide_eq_true (show (m : Int) < n by omega)]
    exact k _ (Same.refl _)
  · refine ⟨D, [true, true], rfl, .inl (.inl e2), q _ s2⟩
/-! ### size_raw -/
abbrev st_size_raw : Stmt := topS 19
theorem sc_size_raw : FnScope ["vocabulary"] ["vocabulary"] (defScope st_size_raw) := ⟨rfl, rfl, rfl, by decide +kernel, rfl, by decide +kernel, by decide +kernel⟩
def sp_size_raw (K : PySem.W.Frag) : Sp := fun vs H Q _ => ∃ (a : Addr) (ls : List Nat) (ms : List P2), vs = [.ref a] ∧ Voc K H a ls ms ∧ ls.length ≤ 6 ∧ ms.length ≤ 10 ∧ Q (nV (1 + ls.length + ms.length)) H
theorem k_size_raw {f : Addr} {fd : FuncData} (G : Names mg) (F : At K mg "size_raw" st_size_raw f fd) (b : Binds K fd ["vocabulary"] []) : Keeps P w K mg base 1 "size_raw" ["vocabulary"] (sp_size_raw K) := by
  refine F.keeps sc_size_raw b (fun vs H Q E h => ?_) (fun cdv A outer s H vs Q E hr h => ?_)
  · obtain ⟨a, ls, ms, rfl, _⟩ := h
    rfl
  obtain ⟨a, ls, ms, rfl, ⟨m, bs, hV, hM, hP⟩, h1, h2, q⟩ := h
  refine ⟨_, pss_one (ps_ret (pe_op op_add (pe_op op_add pe_int (pe_callB call_len_str (by rfl) (G.blt _ (by decide)) PySem.boot_len (pa_cons (pe_ix ix_tup (pv 0) pe_int (fun _ _ => rfl)) pa_nil)))
    (pe_callB call_len_seq (by rfl) (G.blt _ (by decide)) PySem.boot_len (pa_cons (pe_ix ix_tup (pv 0) pe_int (fun _ _ => rfl)) pa_nil)))), ?_⟩
  refine ⟨_, rfl, a, _, 1, _, rfl, rfl, hV, at1, sT ls, rfl, by rw [sT_len]; exact line_small (by omega), 1, _, rfl, rfl, ?_⟩
  refine ⟨_, rfl, a, _, 2, _, rfl, rfl, hV, at2, m, _, rfl, .inr hM, _, _, rfl, rfl, ?_⟩
  have e : (1 + ((sT ls).length : Int)) + ((bs.map V.ref).length : Int) = ((1 + ls.length + ms.length : Nat) : Int) := by
    rw [sT_len, List.length_map, hP.1]
    omega
  show Q (V.int ((1 + ((sT ls).length : Int)) + ((bs.map V.ref).length : Int))) H
  rw [e]
  exact q
/-! ### pieces_of -/
abbrev st_pieces_of : Stmt := topS 20
theorem sc_pieces_of : FnScope ["vocabulary", "found", "i", "j"] ["vocabulary"] (defScope st_pieces_of) := ⟨rfl, rfl, rfl, by decide +kernel, rfl, by decide +kernel, by decide +kernel⟩
def sp_pieces_of (K : PySem.W.Frag) : Sp := fun vs H Q _ => ∃ (a : Addr) (ls : List Nat) (ms : List P2), vs = [.ref a] ∧ Voc K H a ls ms ∧ ls.length ≤ 6 ∧ ms.length ≤ 10 ∧ MsOk ls.length ms ∧ ∀ H' p, Same H H' → H p = none → H' p = some (.lst ((pcs ls ms).map sV)) → Q (.ref p) H'
theorem pcs_at {ls : List Nat} {ms : List P2} {n t : Nat} (h : t < 1 + ls.length + ms.length) : atI ((pcs ls ms).map sV) (t : Int) = some (sV (piece (pcs ls ms) t)) := by
  refine atI_nat ?_
  have ht : t < (pcs ls ms).length := by rw [pcs_len]; exact h
  rw [List.getElem?_map]
  unfold piece
  rw [List.getD_eq_getElem?_getD, List.getElem?_eq_getElem ht]
  rfl
theorem k_pieces_of {f : Addr} {fd : FuncData} (G : Names mg) (F : At K mg "pieces_of" st_pieces_of f fd) (b : Binds K fd ["vocabulary"] []) : Keeps P w K mg base 1 "pieces_of" ["vocabulary"] (sp_pieces_of K) := by
  refine F.keeps sc_pieces_of b (fun vs H Q E h => ?_) (fun cdv A outer s H vs Q E hr h => ?_)
  · obtain ⟨a, ls, ms, rfl, _⟩ := h
    rfl
  obtain ⟨a, ls, ms, rfl, ⟨m, bs, hV, hM, hP⟩, h1, h2, hok, q⟩ := h
  have nd := sc_pieces_of.nd
  refine ⟨_, pss_cons (ps_set (i := 1) nd rfl (.inl rfl) (pe_op op_cat (pe_lst (pa_cons pe_str pa_nil)) (pe_callTy (cr_listS rfl) (by rfl) (G.blt _ (by decide)) boot_list (pa_cons (pe_ix ix_tup (pv 0) pe_int (fun _ _ => rfl)) pa_nil))))
    (pss_cons (ps_for PassesOwn.never rfl (pi_tup (pe_ix ix_tup (pv 0) pe_int (fun _ _ => rfl))) (pg_tup rfl (pgs_cons (pg_name (i := 2) nd rfl (.inl rfl)) (pgs_cons (pg_name (i := 3) nd rfl (.inl rfl)) pgs_nil)))
      (pss_one (ps_expr (pe_bm PySem.F.plainAttrs_list PySem.F.slot_list_append PySem.F.type_list_append mt_append (pv 1) (pa_cons (pe_op op_add_str (pe_ix ix_list (pv 1) (pv 2) (fun _ _ => rfl)) (pe_ix ix_list (pv 1) (pv 3) (fun _ _ => rfl))) pa_nil)))))
    (pss_one (ps_ret (pv 1)))), ?_⟩
  refine ⟨by decide, fun p1 n1 => ?_⟩
  have s1 := Same.new (o := .lst [.str ""]) n1
  refine ⟨_, rfl, a, _, 1, _, rfl, rfl, Same.tup s1 hV, at1, sT ls, rfl, by rw [sT_len]; exact line_small (by omega), fun p2 n2 => ?_⟩
  have s2 := s1.trans (Same.new (o := .lst (signsV (sT ls))) n2)
  have e0 : [V.str (Str.ofString "")] ++ signsV (sT ls) = (pcs ls (ms.take 0)).map sV := by
    rw [signsV_sT, ← sV_nil, List.take_zero, pcs_nil, pcs0, List.map_cons, List.map_map]
    rfl
  refine ⟨p1, p2, _, _, rfl, rfl, (by rw [upd_ne (ne_of_none upd_same n2)]; exact upd_same), upd_same, ?_, fun o no => ?_⟩
  · rw [← List.length_append, e0, List.length_map, pcs_len]
    exact line_small (by simp; omega)
  rw [e0]
  have n0 : H o = none := s2.free no
  have s3 := s2.trans (Same.new (o := .lst ((pcs ls (ms.take 0)).map sV)) no)
  refine ⟨_, rfl, a, _, 2, _, rfl, rfl, Same.tup s3 hV, at2, m, rfl, ⟨_, Same.tup s3 hM⟩, ?_⟩
  refine for_tup (xs := bs.map V.ref) (fun i σ H3 => ∃ y2 y3, σ = [some (.ref a), some (.ref o), y2, y3] ∧ Same H H3 ∧ H3 o = some (.lst ((pcs ls (ms.take i)).map sV))) ⟨_, _, rfl, s3, upd_same⟩ (fun i σ H3 _ ⟨_, _, _, s4, _⟩ => Same.tup s4 hM)
    (fun i x σ H3 hx ⟨y2, y3, es, s4, eo⟩ => ?_) fun σ H3 ⟨y2, y3, es, s4, eo⟩ => ?_
  · subst es
    rw [List.getElem?_map] at hx
    cases hb : bs[i]? with
    | none => rw [hb] at hx; cases hx
    | some b =>
      rw [hb] at hx
      have ex : V.ref b = x := Option.some.inj hx
      subst ex
      have hi : i < ms.length := by
        have := (List.getElem?_eq_some_iff.mp hb).1
        rw [← hP.1]
        exact this
      have hm : ms[i]? = some ms[i] := List.getElem?_eq_getElem hi
      have hT := Same.tup s4 (hP.2 i b _ hb hm)
      obtain ⟨⟨g1, g2⟩, g3, g4⟩ := hok i _ hm
      have lt : (ms.take i).length = i := by rw [List.length_take]; omega
      refine ⟨b, _, rfl, hT, rfl, _, _, rfl, _, _, rfl, rfl, ?_⟩
      refine ⟨_, rfl, .inl ⟨rfl, _, .inl (.inl eo)⟩, _, rfl, _, rfl, o, _, _, _, rfl, rfl, .inl (.inl eo), pcs_at (n := 0) (by rw [lt]; omega), _, rfl, _, rfl, o, _, _, _, rfl, rfl, .inl (.inl eo), pcs_at (n := 0) (by rw [lt]; omega), _, _, rfl, rfl, ?_, ?_⟩
      · have l1 := piece_short ls (ms := ms.take i) (by omega) ms[i].1
        have l2 := piece_short ls (ms := ms.take i) (by omega) ms[i].2
        rw [sT_len, sT_len]
        exact line_small (by omega)
      refine ⟨o, _, _, rfl, rfl, eo, ?_, ?_⟩
      · rw [List.length_map, pcs_len, lt]
        exact line_lt (by omega)
      refine ⟨_, _, rfl, fun c z e => ?_, ?_⟩
      · have hc : c ≠ o := ne_of_none e n0
        rw [upd_ne hc]
        exact s4 _ _ e
      · rw [upd_same, List.take_add_one, hm]
        show some (HO.lst (_ ++ [V.str (sT _ ++ sT _)])) = some (HO.lst ((pcs ls (ms.take i ++ [ms[i]])).map sV))
        rw [pcs_snoc, List.map_append, sT_app]
        rfl
  · subst es
    have e : ms.take (bs.map V.ref).length = ms := by rw [List.length_map, hP.1, List.take_length]
    rw [e] at eo
    exact ⟨_, rfl, q H3 o s4 n0 eo⟩
end
end TK
end
section
set_option Elab.async false
set_option linter.all false
set_option maxRecDepth 100000
set_option maxHeartbeats 8000000
/-! The walk, third part: merged, the check of a vocabulary, tokens and texts. -/
namespace TK
open PySem PySem.Spec L2
open PyProof.Rows TL
/-! ### plain facts -/
def nD (n : Nat) : PyData := .int (n : Int)
theorem eqv_ints : ∀ l m : List Nat, PyData.eqvAll (l.map nD) (m.map nD) = decide (l = m)
  | [], [] => rfl
  | [], _ :: _ => rfl
  | _ :: _, [] => rfl
  | x :: l, y :: m => by
    show (((x : Int) == (y : Int)) && PyData.eqvAll (l.map nD) (m.map nD)) = _
    rw [eqv_ints l m, Bool.eq_iff_iff]
    simp
    intro _
    omega
theorem shaped_ints (l : List Nat) (h : l.length ≤ 2) : SeqAt.shaped (.tuple (l.map nD)) = true := by
  match l, h with
  | [], _ => rfl
  | [x], _ => simp [SeqAt.shaped, PyData.canLay0, PyData.canLayAll0, nD, PyData.depth, PyData.depthAll]
  | [x, y], _ => simp [SeqAt.shaped, PyData.canLay0, PyData.canLayAll0, nD, PyData.depth, PyData.depthAll]
theorem dp_ints {K : PySem.W.Frag} {H : Hp} : ∀ l : List Nat, DpAll K H (rowV l) (l.map nD)
  | [] => .nil
  | x :: l => .cons (.int _) (dp_ints l)
theorem cut_row (r : List Nat) {i j : Nat} (h : i ≤ r.length) (hj : i ≤ j) : cutV (rowV r) (some (i : Int)) (some (j : Int)) = rowV ((r.drop i).take (j - i)) := by
  unfold cutV rowV
  rw [HT.sIx_nat, HT.sIx_nat, List.length_map, Nat.min_eq_left h, ← List.map_drop, ← List.map_take]
  congr 1
  by_cases hc : j ≤ r.length
  · rw [Nat.min_eq_left hc]
  · rw [Nat.min_eq_right (by omega), List.take_of_length_le (by rw [List.length_drop]; omega), List.take_of_length_le (by rw [List.length_drop]; omega)]
theorem idx_first {ls : List Nat} {c i : Nat} (h : ls[i]? = some c) (hb : ∀ k, k < i → ls[k]? ≠ some c) : ls.idxOf c = i := by
  induction ls generalizing i with
  | nil => simp at h
  | cons a ls ih =>
    cases i with
    | zero =>
      have e : a = c := Option.some.inj h
      rw [e, List.idxOf_cons_self]
    | succ i =>
      have ne : a ≠ c := fun e => hb 0 (Nat.succ_pos _) (by rw [e]; rfl)
      rw [List.idxOf_cons, beq_false_of_ne ne, ih (i := i) h fun k hk => hb (k + 1) (Nat.succ_lt_succ hk)]
      rfl
theorem occ_idx {ls : List Nat} {c : Nat} (h : c ∈ ls) : ∃ rest, Builtin.Str.occurrences (sT ls) ⟨#[c]⟩ 0 (sT ls).length 1 = ls.idxOf c :: rest := by
  have e : (sT ls).cps.toList = ls := by
    show ls.toArray.toList = ls
    rw [List.toList_toArray]
  rcases StrLaws.occ_head (sT ls) ⟨#[c]⟩ 1 (Nat.le_refl _) with ⟨_, h2⟩ | ⟨i, r, h1, h2, h3⟩
  · obtain ⟨i, hi⟩ := List.mem_iff_getElem?.mp h
    exact absurd ((StrLaws.subAt_one (sT ls) c i).mpr (by rw [e]; exact hi)) (h2 i)
  · have g := (StrLaws.subAt_one (sT ls) c i).mp h2
    rw [e] at g
    refine ⟨r, ?_⟩
    rw [h1, idx_first g fun k hk q => h3 k hk ((StrLaws.subAt_one (sT ls) c k).mpr (by rw [e]; exact q))]
theorem join_texts : ∀ ts : List (List Nat), Txt.join (Str.ofString "") (ts.map sT) = sT ts.flatten
  | [] => by decide +kernel
  | [x] => by
    rw [join_eq]
    show sT x = sT ([x].flatten)
    simp
  | x :: y :: r => by
    have ih := join_texts (y :: r)
    rw [join_eq] at ih ⊢
    show sT x ++ Str.ofString "" ++ Str.join (Str.ofString "") ((y :: r).map sT) = _
    rw [ih, show (Str.ofString "") = sT [] by decide +kernel, sT_app, sT_app]
    simp
theorem merge_short (p : P2) (t : Nat) {l : List Nat} (h : l.length ≤ 1) : merge p t l = l := by
  match l, h with
  | [], _ => rfl
  | [_], _ => rfl
section
variable {P : Program} {w : World} {K : PySem.W.Frag} {mg : Str → Option Value} {base : Heap}
/-! ### merged -/
abbrev st_merged : Stmt := topS 22
theorem sc_merged : FnScope ["tokens", "merge", "token", "found", "at"] ["tokens", "merge", "token"] (defScope st_merged) := ⟨rfl, rfl, rfl, by decide +kernel, rfl, by decide +kernel, by decide +kernel⟩
def sp_merged (K : PySem.W.Frag) : Sp := fun vs H Q _ => ∃ (t b : Addr) (r : List Nat) (p : P2) (n : Nat), vs = [.ref t, .ref b, nV n] ∧ SqL K H t (rowV r) ∧ SqT K H b (pairV p) ∧ r.length ≤ 1000 ∧ ∀ H' o, Same H H' → H o = none → H' o = some (.lst (rowV (merge p n r))) → Q (.ref o) H'
theorem row_at {r : List Nat} {i : Nat} (h : i < r.length) : atI (rowV r) (i : Int) = some (nV r[i]) := atI_nat (by
  unfold rowV
  rw [List.getElem?_map, List.getElem?_eq_getElem h]
  rfl)
theorem k_merged {f : Addr} {fd : FuncData} (G : Names mg) (F : At K mg "merged" st_merged f fd) (b : Binds K fd ["tokens", "merge", "token"] []) : Keeps P w K mg base 1 "merged" ["tokens", "merge", "token"] (sp_merged K) := by
  refine F.keeps sc_merged b (fun vs H Q E h => ?_) (fun cdv A outer s H vs Q E hr h => ?_)
  · obtain ⟨t, b, r, p, n, rfl, _⟩ := h
    rfl
  obtain ⟨t, b, r, p, n, rfl, hL, hB, hlen, q⟩ := h
  have nd := sc_merged.nd
  refine ⟨_, pss_cons (ps_par (i := 3) (j := 4) rfl nd rfl rfl (by decide) rfl rfl (pa_cons (pe_lst pa_nil) (pa_cons pe_int pa_nil)) (by rfl))
    (pss_cons (ps_while PassesOwn.never (pt_cmpR op_lt (pv 4) (pe_callB call_len_seq (by rfl) (G.blt _ (by decide)) PySem.boot_len (pa_cons (pv 0) pa_nil)) (nomark _))
      (pss_one (ps_if (pt_cmpR (op_eqD hr.units) (pe_callTy call_tuple_of (by rfl) (G.blt _ (by decide)) boot_tuple (pa_cons (pe_slice sl_list (pv 0) (po_some (pv 4)) (po_some (pe_op op_add (pv 4) pe_int))) pa_nil)) (pv 1) (nomark _))
        (pss_cons (ps_expr (pe_bm PySem.F.plainAttrs_list PySem.F.slot_list_append PySem.F.type_list_append mt_append (pv 3) (pa_cons (pv 2) pa_nil))) (pss_one (ps_aug (i := 4) nd rfl (.inl rfl) pe_int ip_add)))
        (pss_cons (ps_expr (pe_bm PySem.F.plainAttrs_list PySem.F.slot_list_append PySem.F.type_list_append mt_append (pv 3) (pa_cons (pe_ix ix_list (pv 0) (pv 4) (fun _ _ => rfl)) pa_nil))) (pss_one (ps_aug (i := 4) nd rfl (.inl rfl) pe_int ip_add))))))
    (pss_one (ps_ret (pv 3)))), ?_⟩
  refine ⟨Nat.zero_le _, fun o no => ⟨_, _, rfl, ?_⟩⟩
  refine ⟨fun m σ H3 => ∃ (i : Nat) (acc : List Nat), σ = [some (.ref t), some (.ref b), some (nV n), some (.ref o), some (nV i)] ∧ i ≤ r.length ∧ m = r.length - i ∧ Same H H3 ∧ H3 o = some (.lst (rowV acc)) ∧ merge p n r = acc ++ merge p n (r.drop i) ∧ acc.length ≤ i,
    ⟨r.length, 0, [], rfl, Nat.zero_le _, rfl, Same.new no, upd_same, rfl, Nat.le_refl _⟩, ?_⟩
  rintro m σ H3 ⟨i, acc, rfl, hi, rfl, s3, eo, em, ha⟩
  have hL3 := s3.seq hL
  refine ⟨_, rfl, _, rfl, t, _, rfl, .inl hL3, _, _, rfl, rfl, _, rfl, ite2 (fun e => ?_) (fun e => ?_)⟩
  · have hlt : i < r.length := by
      have := of_decide_eq_true e
      unfold rowV at this
      rw [List.length_map] at this
      omega
    refine ⟨fun σ' H' => ∃ (i' : Nat) (acc' : List Nat), σ' = [some (.ref t), some (.ref b), some (nV n), some (.ref o), some (nV i')] ∧ i < i' ∧ i' ≤ r.length ∧ Same H H' ∧ H' o = some (.lst (rowV acc')) ∧ merge p n r = acc' ++ merge p n (r.drop i') ∧ acc'.length ≤ i',
      fun σ' H' ⟨i', acc', h1, h2, h3, h4⟩ => ⟨r.length - i', by omega, i', acc', h1, h3, rfl, h4⟩, ?_⟩
    refine ⟨_, rfl, _, rfl, _, rfl, _, rfl, _, _, rfl, rfl, _, rfl, t, _, rfl, hL3, fun c nc => ?_⟩
    have e2 : cutV (rowV r) (some (i : Int)) (some ((i : Int) + 2)) = rowV ((r.drop i).take 2) := by
      have := cut_row r (i := i) (j := i + 2) hi (by omega)
      rw [show i + 2 - i = 2 by omega] at this
      exact this
    have s4 := s3.trans (Same.new (o := .lst (cutV (rowV r) (some (i : Int)) (some ((i : Int) + 2)))) nc)
    refine ⟨c, _, rfl, .inl ⟨.inl (.inl upd_same), fun u nu => ?_⟩⟩
    have s5 := s4.trans (Same.new (o := .tup (cutV (rowV r) (some (i : Int)) (some ((i : Int) + 2)))) nu)
    refine ⟨_, rfl, ?_⟩
    have c0 : c ≠ o := ne_of_none eo nc |>.symm
    have u0 : u ≠ o := by
      intro z
      rw [z, upd_ne c0.symm, eo] at nu
      cases nu
    have eo5 : (upd (upd H3 c (.lst (cutV (rowV r) (some (i : Int)) (some ((i : Int) + 2))))) u (.tup (cutV (rowV r) (some (i : Int)) (some ((i : Int) + 2))))) o = some (.lst (rowV acc)) := by
      rw [upd_ne u0.symm, upd_ne c0.symm]
      exact eo
    refine ⟨.tuple (((r.drop i).take 2).map nD), .tuple ([p.1, p.2].map nD), .tup (xs := rowV ((r.drop i).take 2)) (.inl (.inl (by rw [upd_same, e2]))) (dp_ints _), .tup (xs := rowV [p.1, p.2]) (Same.tup s5 hB) (dp_ints _),
      shaped_ints _ (by rw [List.length_take]; omega), shaped_ints _ (Nat.le_refl _), _, rfl, ?_⟩
    show if PyData.eqvAll _ _ = true then _ else _
    rw [eqv_ints]
    refine ite2 (fun hh => ?_) (fun hh => ?_)
    · have hh2 : (r.drop i).take 2 = [p.1, p.2] := of_decide_eq_true hh
      obtain ⟨rest, hr2⟩ : ∃ rest, r.drop i = p.1 :: p.2 :: rest := by
        match hd : r.drop i, hh2 with
        | x :: y :: rest, h => exact ⟨rest, by injection h with h1 h; injection h with h2 _; rw [h1, h2]⟩
      have lr : (r.drop i).length = rest.length + 2 := by rw [hr2]; rfl
      rw [List.length_drop] at lr
      have dr : r.drop (i + 2) = rest := by
        rw [← List.drop_drop, hr2]
        rfl
      refine ⟨_, rfl, .inl ⟨rfl, _, .inl (.inl eo5)⟩, _, rfl, o, _, _, rfl, rfl, eo5, ?_, ?_⟩
      · unfold rowV
        rw [List.length_map]
        exact line_lt (by omega)
      refine ⟨_, rfl, _, _, rfl, rfl, i + 2, acc ++ [n], ?_, by omega, by omega, fun x z ex => ?_, ?_, ?_, by simp; omega⟩
      · show [_, _, _, _, some (V.int ((i : Int) + 2))] = _
        rfl
      · rw [upd_ne (ne_of_none ex no)]
        exact s5 _ _ ex
      · rw [upd_same]
        unfold rowV
        rw [List.map_append]
        rfl
      · rw [em, hr2, merge_hit ⟨rfl, rfl⟩, dr, List.append_assoc]
        rfl
    · have hh2 : (r.drop i).take 2 ≠ [p.1, p.2] := fun z => hh (decide_eq_true z)
      have dr : r.drop i = r[i] :: r.drop (i + 1) := List.drop_eq_getElem_cons hlt
      refine ⟨_, rfl, .inl ⟨rfl, _, .inl (.inl eo5)⟩, _, rfl, _, rfl, t, _, _, _, rfl, rfl, s5.seq hL, row_at hlt, o, _, _, rfl, rfl, eo5, ?_, ?_⟩
      · unfold rowV
        rw [List.length_map]
        exact line_lt (by omega)
      refine ⟨_, rfl, _, _, rfl, rfl, i + 1, acc ++ [r[i]], ?_, by omega, by omega, fun x z ex => ?_, ?_, ?_, by simp; omega⟩
      · show [_, _, _, _, some (V.int ((i : Int) + 1))] = _
        rfl
      · rw [upd_ne (ne_of_none ex no)]
        exact s5 _ _ ex
      · rw [upd_same]
        unfold rowV
        rw [List.map_append]
        rfl
      · rw [em, dr]
        cases hd : r.drop (i + 1) with
        | nil => rw [merge_short _ _ (by simp), merge_short _ _ (by simp)]; simp
        | cons y rest =>
          have nm : ¬ (r[i] = p.1 ∧ y = p.2) := fun z => hh2 (by rw [dr, hd, z.1, z.2]; rfl)
          rw [merge_miss nm, List.append_assoc]
          rfl
  · have hge : i = r.length := by
      have h1 : ¬ ((i : Int) < ((rowV r).length : Int)) := fun z => e (decide_eq_true z)
      unfold rowV at h1
      rw [List.length_map] at h1
      omega
    subst hge
    rw [List.drop_length, show merge p n [] = [] from rfl, List.append_nil] at em
    rw [← em] at eo
    exact ⟨_, rfl, q H3 o s3 no eo⟩
end
end TK
end
section
set_option Elab.async false
set_option linter.all false
set_option maxRecDepth 100000
set_option maxHeartbeats 8000000
/-! The walk, fourth part: the check of a vocabulary, tokens and texts. -/
namespace TK
open PySem PySem.Spec L2
open PyProof.Rows TL
theorem sT_inj_map {xs : List (List Nat)} (h : xs.Nodup) : (xs.map sT).Nodup := by
  unfold List.Nodup
  rw [List.pairwise_map]
  exact h.imp fun {a b} hab e => hab (sT_inj e)
theorem len_of_set {ks xs : List Str} (nd : ks.Nodup) (nx : xs.Nodup) (h : ∀ y, y ∈ ks ↔ y ∈ xs) : ks.length = xs.length :=
  ((List.perm_ext_iff_of_nodup nd nx).mpr h).length_eq
theorem ref_at {bs : List Addr} {i : Nat} {x : V} (h : (bs.map V.ref)[i]? = some x) : ∃ b, bs[i]? = some b ∧ x = .ref b := by
  rw [List.getElem?_map] at h
  cases hb : bs[i]? with
  | none => rw [hb] at h; cases h
  | some b =>
    rw [hb] at h
    exact ⟨b, rfl, (Option.some.inj h).symm⟩
section
variable {P : Program} {w : World} {K : PySem.W.Frag} {mg : Str → Option Value} {base : Heap}
/-! ### is_vocabulary_value -/
abbrev st_is_vocabulary_value : Stmt := topS 16
theorem sc_is_vocabulary_value : FnScope ["thing", "letters", "merges", "at", "merge"] ["thing"] (defScope st_is_vocabulary_value) := ⟨rfl, rfl, rfl, by decide +kernel, rfl, by decide +kernel, by decide +kernel⟩
def sp_is_vocabulary_value (K : PySem.W.Frag) : Sp := fun vs H Q _ => ∃ (a : Addr) (ls : List Nat) (ms : List P2), vs = [.ref a] ∧ Voc K H a ls ms ∧ Good ls ms ∧ ∀ H', Same H H' → Q (.bl true) H'
theorem k_is_vocabulary_value {f : Addr} {fd : FuncData} (G : Names mg) (F : At K mg "is_vocabulary_value" st_is_vocabulary_value f fd) (b : Binds K fd ["thing"] []) (k1 : Keeps P w K mg base 1 "are_letters" ["thing"] sp_are_letters)
    (k2 : Keeps P w K mg base 3 "is_pair_below" ["thing", "most"] (sp_is_pair_below K)) (k3 : Keeps P w K mg base 1 "pieces_of" ["vocabulary"] (sp_pieces_of K)) (k4 : Keeps P w K mg base 1 "size_raw" ["vocabulary"] (sp_size_raw K)) :
    Keeps P w K mg base 4 "is_vocabulary_value" ["thing"] (sp_is_vocabulary_value K) := by
  refine F.keeps sc_is_vocabulary_value b (fun vs H Q E h => ?_) (fun cdv A outer s H vs Q E hr h => ?_)
  · obtain ⟨a, ls, ms, rfl, _⟩ := h
    rfl
  obtain ⟨a, ls, ms, rfl, hv, g, q⟩ := h
  obtain ⟨m, bs, hV, hM, hP⟩ := id hv
  have nd := sc_is_vocabulary_value.nd
  obtain ⟨tV, gV⟩ := G.voc
  obtain ⟨tM, gM⟩ := G.merges
  have l6 := g.lts.most
  have l10 := g.few
  refine ⟨_, pss_cons (ps_if (PW.pt (pw_or (pt_not (pt_val (pe_isi (n := "tuple") (by rfl) (G.blt _ (by decide)) (by rfl) (G.blt _ (by decide)) boot_tuple (pv 0))))
      (pw_or (pt_cmpR op_ne (pe_callB call_len_seq (by rfl) (G.blt _ (by decide)) PySem.boot_len (pa_cons (pv 0) pa_nil)) pe_int (nomark _))
      (pw_or (pt_not (pt_val (pe_isi (n := "str") (by rfl) (G.blt _ (by decide)) (by rfl) (G.blt _ (by decide)) boot_str (pe_ix ix_tup (pv 0) pe_int (fun _ _ => rfl)))))
      (pw_or1 (pt_cmpR op_ne (pe_ix ix_tup (pv 0) pe_int (fun _ _ => rfl)) (pe_glob (v := .str "vocabulary") (by rfl) gV ⟨_, rfl⟩) (nomark _))))))) (pss_one (ps_ret pe_bl)) pss_nil)
    (pss_cons (ps_par (i := 1) (j := 2) rfl nd rfl rfl (by decide) rfl rfl (pa_cons (pe_ix ix_tup (pv 0) pe_int (fun _ _ => rfl)) (pa_cons (pe_ix ix_tup (pv 0) pe_int (fun _ _ => rfl)) pa_nil)) (by rfl))
    (pss_cons (ps_if (PW.pt (pw_or (pt_not (pt_val (pe_def k1 (hr.mono (by decide)) (by rfl) (pa_cons (pv 1) pa_nil))))
      (pw_or (pt_not (pt_val (pe_isi (n := "tuple") (by rfl) (G.blt _ (by decide)) (by rfl) (G.blt _ (by decide)) boot_tuple (pv 2))))
      (pw_or1 (pt_cmpR op_gt (pe_callB call_len_seq (by rfl) (G.blt _ (by decide)) PySem.boot_len (pa_cons (pv 2) pa_nil)) (pe_glob (v := .int 10) (by rfl) gM ⟨_, rfl⟩) (nomark _)))))) (pss_one (ps_ret pe_bl)) pss_nil)
    (pss_cons (ps_for PassesOwn.never rfl (pi_enumT (by rfl) (G.blt _ (by decide)) (pa_cons (pv 2) pa_nil)) (pg_tup rfl (pgs_cons (pg_name (i := 3) nd rfl (.inl rfl)) (pgs_cons (pg_name (i := 4) nd rfl (.inl rfl)) pgs_nil)))
      (pss_one (ps_if (pt_not (pt_val (pe_def k2 hr (by rfl) (pa_cons (pv 4) (pa_cons (pe_op op_add (pe_op op_add pe_int (pe_callB call_len_str (by rfl) (G.blt _ (by decide)) PySem.boot_len (pa_cons (pv 1) pa_nil))) (pv 3)) pa_nil))))) (pss_one (ps_ret pe_bl)) pss_nil)))
    (pss_one (ps_ret (pe_cmpR op_eq (pe_callB cr_lenS (by rfl) (G.blt _ (by decide)) PySem.boot_len (pa_cons (pe_callTy (cr_setS rfl) (by rfl) (G.blt _ (by decide)) boot_set (pa_cons (pe_def k3 (hr.mono (by decide)) (by rfl) (pa_cons (pv 0) pa_nil)) pa_nil)) pa_nil))
      (pe_def k4 (hr.mono (by decide)) (by rfl) (pa_cons (pv 0) pa_nil)) (nomark _))))))), ?_⟩
  refine ⟨_, rfl, _, _, _, _, true, rfl, .ty _, tyT hV, kit_ty (by decide +kernel), true, rfl, ?_⟩
  refine iteF ⟨_, rfl, a, _, rfl, .inr hV, rfl, _, rfl, iteND rfl ?_⟩
  refine ⟨_, rfl, a, _, 0, _, rfl, rfl, hV, at0, _, _, _, _, true, rfl, .ty _, .base (.str _), kit_ty (by decide +kernel), true, rfl, iteF ?_⟩
  refine ⟨_, rfl, a, _, 0, _, rfl, rfl, hV, at0, rfl, _, rfl, iteND rfl ?_⟩
  refine ⟨_, rfl, a, _, 1, _, rfl, rfl, hV, at1, _, rfl, a, _, 2, _, rfl, rfl, hV, at2, _, _, rfl, ?_⟩
  refine ⟨_, rfl, ls, rfl, g.lts, fun H1 s1 => ⟨true, rfl, iteF ?_⟩⟩
  have hM1 := Same.tup s1 hM
  refine ⟨_, rfl, _, _, _, _, true, rfl, .ty _, tyT hM1, kit_ty (by decide +kernel), true, rfl, iteF ?_⟩
  have hbl : (bs.map V.ref).length = ms.length := by rw [List.length_map, hP.1]
  refine ⟨_, rfl, m, _, rfl, .inr hM1, _, _, rfl, rfl, _, rfl, iteN (by rw [hbl]; omega) ?_⟩
  refine ⟨_, rfl, m, _, rfl, hM1, ?_⟩
  refine for_it walk_enumT (fun i σ H3 => ∃ y3 y4, σ = [some (.ref a), some (sV ls), some (.ref m), y3, y4] ∧ Same H H3) ⟨_, _, rfl, s1⟩ (fun i σ H3 _ ⟨_, _, _, s3⟩ => Same.tup s3 hM) (fun i x σ H3 H4 hi ⟨y3, y4, es, s3⟩ Y => ?_) fun σ H3 ⟨y3, y4, es, s3⟩ => ?_
  · subst es
    obtain ⟨T, x1, x2, rfl, nT, rfl, e1, e2⟩ := Y
    have ex1 : V.int (i : Nat) = x1 := Option.some.inj e1
    subst ex1
    obtain ⟨b, hb, rfl⟩ := ref_at e2
    · have hi2 : i < ms.length := by rw [← hbl]; exact hi
      have hm : ms[i]? = some ms[i] := List.getElem?_eq_getElem hi2
      have s4 := s3.trans (Same.new (o := .tup [.int (i : Nat), .ref b]) nT)
      obtain ⟨g1, g2⟩ := g.ok i _ hm
      refine ⟨T, _, rfl, .inl (.inl upd_same), rfl, _, _, rfl, _, _, rfl, rfl, ?_⟩
      refine ⟨_, rfl, _, rfl, sT ls, rfl, by rw [sT_len]; exact line_small (by omega), _, _, rfl, rfl, _, rfl, _, _, rfl, rfl, b, ms[i], 1 + ls.length + i, ?_, Same.tup s4 (hP.2 i b _ hb hm), g1, g2, fun H5 s5 => ⟨true, rfl, iteF ⟨_, _, rfl, s4.trans s5⟩⟩⟩
      show [V.ref b, V.int (1 + ((sT ls).length : Int) + (i : Int))] = [V.ref b, V.int ((1 + ls.length + i : Nat) : Int)]
      rw [sT_len]
      congr 2
  · subst es
    refine ⟨_, rfl, a, ls, ms, rfl, hv.same s3, l6, l10, g.ok, fun H4 p s4 np ep => ?_⟩
    refine .inr ⟨p, (pcs ls ms).map sT, rfl, .inl (.inl (by rw [List.map_map]; exact ep)), ?_, fun u ks nu nk hk => ?_⟩
    · rw [List.length_map, pcs_len]
      omega
    have s5 := s3.trans (s4.trans (Same.new (o := SsO w u ks) nu))
    refine ⟨u, ks, rfl, upd_same, _, rfl, a, ls, ms, rfl, hv.same s5, l6, l10, rfl, ?_⟩
    have e3 : ks.length = 1 + ls.length + ms.length := by
      rw [len_of_set nk (sT_inj_map g.nd) hk, List.length_map, pcs_len]
    rw [e3, decide_eq_true (show V.int ((1 + ls.length + ms.length : Nat) : Int) = nV (1 + ls.length + ms.length) from rfl)]
    exact q _ s5
/-! ### need_vocabulary -/
abbrev st_need_vocabulary : Stmt := topS 17
theorem sc_need_vocabulary : FnScope ["thing"] ["thing"] (defScope st_need_vocabulary) := ⟨rfl, rfl, rfl, by decide +kernel, rfl, by decide +kernel, by decide +kernel⟩
def sp_need_vocabulary (K : PySem.W.Frag) : Sp := fun vs H Q _ => ∃ (a : Addr) (ls : List Nat) (ms : List P2), vs = [.ref a] ∧ Voc K H a ls ms ∧ Good ls ms ∧ ∀ H', Same H H' → Q .non H'
theorem k_need_vocabulary {f : Addr} {fd : FuncData} (F : At K mg "need_vocabulary" st_need_vocabulary f fd) (b : Binds K fd ["thing"] []) (k1 : Keeps P w K mg base 4 "is_vocabulary_value" ["thing"] (sp_is_vocabulary_value K)) :
    Keeps P w K mg base 5 "need_vocabulary" ["thing"] (sp_need_vocabulary K) := by
  refine F.keeps sc_need_vocabulary b (fun vs H Q E h => ?_) (fun cdv A outer s H vs Q E hr h => ?_)
  · obtain ⟨a, ls, ms, rfl, _⟩ := h
    rfl
  obtain ⟨a, ls, ms, rfl, hv, g, q⟩ := h
  refine ⟨_, pss_one (ps_if (pt_not (pt_val (pe_def k1 hr (by rfl) (pa_cons (pv 0) pa_nil)))) (pss_one ps_never) pss_nil), ?_⟩
  exact ⟨_, rfl, a, ls, ms, rfl, hv, g, fun H1 s1 => ⟨true, rfl, iteF (q _ s1)⟩⟩
end
end TK
end
section
set_option Elab.async false
set_option linter.all false
set_option maxRecDepth 100000
set_option maxHeartbeats 8000000
/-! The walk, fifth part: tokens and texts. -/
namespace TK
open PySem PySem.Spec L2
open PyProof.Rows TL
theorem sum_short {n : Nat} : ∀ {ts : List (List Nat)}, (∀ t ∈ ts, t.length ≤ n) → ((ts.map sT).map (·.length)).sum ≤ ts.length * n
  | [], _ => by simp
  | t :: ts, h => by
    have h1 := h t List.mem_cons_self
    have h2 := sum_short (n := n) fun x hx => h x (List.mem_cons_of_mem _ hx)
    rw [List.map_cons, List.map_cons, List.sum_cons, List.length_cons, Nat.succ_mul, sT_len]
    omega
section
variable {P : Program} {w : World} {K : PySem.W.Frag} {mg : Str → Option Value} {base : Heap}
/-! ### are_tokens_below -/
abbrev st_are_tokens_below : Stmt := topS 18
theorem sc_are_tokens_below : FnScope ["thing", "many", "item"] ["thing", "many"] (defScope st_are_tokens_below) := ⟨rfl, rfl, rfl, by decide +kernel, rfl, by decide +kernel, by decide +kernel⟩
def sp_are_tokens_below (K : PySem.W.Frag) : Sp := fun vs H Q _ => ∃ (t : Addr) (r : List Nat) (n : Nat), vs = [.ref t, nV n] ∧ SqT K H t (rowV r) ∧ r.length ≤ 1000 ∧ (∀ x ∈ r, x < n) ∧ ∀ H', Same H H' → Q (.bl true) H'
theorem k_are_tokens_below {f : Addr} {fd : FuncData} (G : Names mg) (F : At K mg "are_tokens_below" st_are_tokens_below f fd) (b : Binds K fd ["thing", "many"] []) (k1 : Keeps P w K mg base 2 "is_from" ["thing", "least"] sp_is_from) :
    Keeps P w K mg base 3 "are_tokens_below" ["thing", "many"] (sp_are_tokens_below K) := by
  refine F.keeps sc_are_tokens_below b (fun vs H Q E h => ?_) (fun cdv A outer s H vs Q E hr h => ?_)
  · obtain ⟨t, r, n, rfl, _⟩ := h
    rfl
  obtain ⟨t, r, n, rfl, hT, hl, hx, q⟩ := h
  refine ⟨_, pss_one (ps_ret (pe_and (pe_isi (n := "tuple") (by rfl) (G.blt _ (by decide)) (by rfl) (G.blt _ (by decide)) boot_tuple (pv 0))
    (pe_one (pe_callB (cr_all rfl) (by rfl) (G.blt _ (by decide)) (by decide +kernel) (pa_cons (pe_lc (own := [("item", 2)]) (g := gName 2) (tt := tYes) rfl sc_are_tokens_below.nd (pi_tup (pv 0)) (blkOk_by (N := ["thing", "many", "item"]) (sc := defScope st_are_tokens_below) (by decide +kernel))
        (fun _ _ _ _ _ => pg_name (i := 2) sc_are_tokens_below.nd rfl (.inl rfl)) (fun _ _ _ _ _ => pts_nil) (fun _ _ _ _ _ => pe_and (pe_def k1 hr (by rfl) (pa_cons (pv 2) (pa_cons pe_int pa_nil))) (pe_one (pe_cmpR op_lt (pv 2) (pv 1) (nomark _))))) pa_nil))))), ?_⟩
  refine ⟨_, rfl, _, _, _, _, true, rfl, .ty _, tyT hT, kit_ty (by decide +kernel), true, rfl, iteT ?_⟩
  refine ⟨_, rfl, t, rfl, ⟨_, hT⟩, fun D hD => ?_⟩
  refine lc_map (walk_tup (xs := rowV r)) ((List.replicate r.length true).map V.bl) (by unfold rowV; simp) (by unfold rowV; rw [List.length_map]; omega) hD (fun _ s2 => Same.tup s2 hT) (fun _ => rfl) (fun i x H2 H3 y hy s2 Y R k => ?_) fun H2 s2 e2 => ?_
  · obtain ⟨rfl, hx2⟩ := Y
    have ey : y = .bl true := by
      rw [List.getElem?_map, List.getElem?_replicate] at hy
      split at hy
      · exact (Option.some.inj hy).symm
      · cases hy
    unfold rowV at hx2
    rw [List.getElem?_map] at hx2
    cases hr2 : r[i]? with
    | none => rw [hr2] at hx2; cases hx2
    | some m =>
      rw [hr2] at hx2
      have ex : nV m = x := Option.some.inj hx2
      subst ex
      have hm := hx m (List.mem_of_getElem? hr2)
      refine ⟨_, rfl, (m : Int), 0, rfl, _, rfl, iteD (by omega) ⟨_, rfl, _, rfl, _, _, rfl, rfl, ?_⟩⟩
      show R (.bl (decide ((m : Int) < n))) H3
      rw [decide_eq_true (show (m : Int) < n by omega), ← ey]
      exact k _ (Same.refl _)
  · refine ⟨D, _, rfl, .inl (.inl e2), ?_⟩
    rw [all_true]
    exact q _ s2
/-! ### text_raw -/
abbrev st_text_raw : Stmt := topS 21
theorem sc_text_raw : FnScope ["vocabulary", "tokens", "pieces", "token"] ["vocabulary", "tokens"] (defScope st_text_raw) := ⟨rfl, rfl, rfl, by decide +kernel, rfl, by decide +kernel, by decide +kernel⟩
def sp_text_raw (K : PySem.W.Frag) : Sp := fun vs H Q _ => ∃ (a t : Addr) (ls : List Nat) (ms : List P2) (r : List Nat), vs = [.ref a, .ref t] ∧ Voc K H a ls ms ∧ Good ls ms ∧ SqT K H t (rowV r) ∧ r.length ≤ 1000 ∧ (∀ x ∈ r, x < 1 + ls.length + ms.length) ∧
  ∀ H', Same H H' → Q (sV (textOf (pcs ls ms) r)) H'
theorem k_text_raw {f : Addr} {fd : FuncData} (F : At K mg "text_raw" st_text_raw f fd) (b : Binds K fd ["vocabulary", "tokens"] []) (k1 : Keeps P w K mg base 1 "pieces_of" ["vocabulary"] (sp_pieces_of K)) :
    Keeps P w K mg base 2 "text_raw" ["vocabulary", "tokens"] (sp_text_raw K) := by
  refine F.keeps sc_text_raw b (fun vs H Q E h => ?_) (fun cdv A outer s H vs Q E hr h => ?_)
  · obtain ⟨a, t, ls, ms, r, rfl, _⟩ := h
    rfl
  obtain ⟨a, t, ls, ms, r, rfl, hv, g, hT, hl, hx, q⟩ := h
  have nd := sc_text_raw.nd
  have l6 := g.lts.most
  have l10 := g.few
  refine ⟨_, pss_cons (ps_set (i := 2) nd rfl (.inr rfl) (pe_def k1 hr (by rfl) (pa_cons (pv 0) pa_nil)))
    (pss_one (ps_ret (pe_join pe_str (pe_lc (own := [("token", 3)]) (g := gName 3) (tt := tYes) rfl nd (pi_tup (pv 1)) (blkOk_by (N := ["vocabulary", "tokens", "pieces", "token"]) (sc := defScope st_text_raw) (by decide +kernel))
        (fun _ _ _ _ _ => pg_name (i := 3) nd rfl (.inl rfl)) (fun _ _ _ _ _ => pts_nil) (fun _ _ _ _ _ => pe_ix (r := rIxL K) ix_list (pv 2) (pv 3) (fun _ _ => rfl)))))), ?_⟩
  refine ⟨_, rfl, a, ls, ms, rfl, hv, l6, l10, g.ok, fun H1 p s1 np ep => ?_⟩
  have hT1 := Same.tup s1 hT
  refine ⟨⟨_, rfl⟩, _, rfl, t, rfl, ⟨_, hT1⟩, fun D hD => ?_⟩
  refine lc_map (walk_tup (xs := rowV r)) (((r.map (piece (pcs ls ms))).map sT).map V.str) (by unfold rowV; simp) (by unfold rowV; rw [List.length_map]; omega) hD (fun _ s2 => Same.tup s2 hT1) (fun _ => rfl) (fun i x H2 H3 y hy s2 Y R k => ?_) fun H2 s2 e2 => ?_
  · obtain ⟨rfl, hx2⟩ := Y
    unfold rowV at hx2
    rw [List.getElem?_map] at hx2
    rw [List.getElem?_map, List.getElem?_map, List.getElem?_map] at hy
    cases hr2 : r[i]? with
    | none => rw [hr2] at hx2; cases hx2
    | some m =>
      rw [hr2] at hx2 hy
      have ex : nV m = x := Option.some.inj hx2
      have ey : sV (piece (pcs ls ms) m) = y := Option.some.inj hy
      subst ex ey
      exact ⟨_, rfl, _, rfl, p, _, _, _, rfl, rfl, .inl (.inl (s2 _ _ ep)), pcs_at (n := 0) (hx m (List.mem_of_getElem? hr2)), k _ (Same.refl _)⟩
  · have hb : (((r.map (piece (pcs ls ms))).map sT).map (·.length)).sum ≤ r.length * 1024 := by
      have := sum_short (n := 1024) (ts := r.map (piece (pcs ls ms))) fun x hx => by
        obtain ⟨m, _, rfl⟩ := List.mem_map.mp hx
        exact piece_short ls l10 m
      rwa [List.length_map] at this
    have h0 : (Str.ofString "").length = 0 := by decide +kernel
    refine ⟨_, D, _, rfl, rfl, .inl (.inl (.inl e2)), ?_, ?_⟩
    · rw [h0, Nat.mul_zero]
      omega
    · rw [join_texts]
      exact q _ (s1.trans s2)
/-! ### is_text -/
abbrev st_is_text : Stmt := topS 23
theorem sc_is_text : FnScope ["vocabulary", "thing", "sign"] ["vocabulary", "thing"] (defScope st_is_text) := ⟨rfl, rfl, rfl, by decide +kernel, rfl, by decide +kernel, by decide +kernel⟩
def sp_is_text (K : PySem.W.Frag) : Sp := fun vs H Q _ => ∃ (a : Addr) (ls : List Nat) (ms : List P2) (x : List Nat), vs = [.ref a, sV x] ∧ Voc K H a ls ms ∧ x.length ≤ 1000 ∧ (∀ c ∈ x, c ∈ ls) ∧ ∀ H', Same H H' → Q (.bl true) H'
theorem k_is_text {f : Addr} {fd : FuncData} (G : Names mg) (F : At K mg "is_text" st_is_text f fd) (b : Binds K fd ["vocabulary", "thing"] []) : Keeps P w K mg base 1 "is_text" ["vocabulary", "thing"] (sp_is_text K) := by
  refine F.keeps sc_is_text b (fun vs H Q E h => ?_) (fun cdv A outer s H vs Q E hr h => ?_)
  · obtain ⟨a, ls, ms, x, rfl, _⟩ := h
    rfl
  obtain ⟨a, ls, ms, x, rfl, ⟨m, bs, hV, hM, hP⟩, hl, hx, q⟩ := h
  have nd := sc_is_text.nd
  refine ⟨_, pss_one (ps_ret (pe_and (pe_isi (n := "str") (by rfl) (G.blt _ (by decide)) (by rfl) (G.blt _ (by decide)) boot_str (pv 1))
    (pe_one (pe_callB (cr_all rfl) (by rfl) (G.blt _ (by decide)) (by decide +kernel) (pa_cons (pe_lc (own := [("sign", 2)]) (g := gName 2) (tt := tYes) rfl nd (pi_str (pv 1)) (blkOk_by (N := ["vocabulary", "thing", "sign"]) (sc := defScope st_is_text) (by decide +kernel))
        (fun _ _ _ _ _ => pg_name (i := 2) nd rfl (.inl rfl)) (fun _ _ _ _ _ => pts_nil) (fun _ _ _ _ _ => pe_cmpR op_in_sign (pv 2) (pe_ix (r := rIxT K) ix_tup (pv 0) pe_int (fun _ _ => rfl)) (by rfl))) pa_nil))))), ?_⟩
  refine ⟨_, rfl, _, _, _, _, true, rfl, .ty _, .base (.str _), kit_ty (by decide +kernel), true, rfl, iteT ?_⟩
  refine ⟨_, rfl, sT x, rfl, fun D hD => ?_⟩
  have hxl : (sT x).cps.size = x.length := sT_len x
  refine lc_map (walk_str (z := sT x)) ((List.replicate x.length true).map V.bl) (by rw [hxl]; simp) (by rw [hxl]; omega) hD (fun _ _ => trivial) (fun _ => rfl) (fun i v H2 H3 y hy s2 Y R k => ?_) fun H2 s2 e2 => ?_
  · obtain ⟨rfl, c, hc, rfl⟩ := Y
    have hm : c ∈ x := by
      have hc2 : x.toArray[i]? = some c := hc
      exact List.mem_of_getElem? (by simpa using hc2)
    have ey : y = .bl true := by
      rw [List.getElem?_map, List.getElem?_replicate] at hy
      split at hy
      · exact (Option.some.inj hy).symm
      · cases hy
    refine ⟨_, rfl, _, rfl, a, _, 1, _, rfl, rfl, Same.tup s2 hV, at1, c, sT ls, rfl, rfl, ?_⟩
    have e : (sT ls).cps.toList = ls := by
      show ls.toArray.toList = ls
      rw [List.toList_toArray]
    rw [e, decide_eq_true (hx c hm), ← ey]
    exact k _ (Same.refl _)
  · refine ⟨D, _, rfl, .inl (.inl e2), ?_⟩
    rw [all_true]
    exact q _ s2
/-! ### tokens_raw -/
abbrev st_tokens_raw : Stmt := topS 24
theorem sc_tokens_raw : FnScope ["vocabulary", "text", "letters", "found", "at", "merge", "sign"] ["vocabulary", "text"] (defScope st_tokens_raw) := ⟨rfl, rfl, rfl, by decide +kernel, rfl, by decide +kernel, by decide +kernel⟩
def sp_tokens_raw (K : PySem.W.Frag) : Sp := fun vs H Q _ => ∃ (a : Addr) (ls : List Nat) (ms : List P2) (x : List Nat), vs = [.ref a, sV x] ∧ Voc K H a ls ms ∧ ls.length ≤ 6 ∧ x.length ≤ 1000 ∧ (∀ c ∈ x, c ∈ ls) ∧ ∀ H' o, Same H H' → H o = none → H' o = some (.lst (rowV (tokens ls ms x))) → Q (.ref o) H'
theorem k_tokens_raw {f : Addr} {fd : FuncData} (G : Names mg) (F : At K mg "tokens_raw" st_tokens_raw f fd) (b : Binds K fd ["vocabulary", "text"] []) (k1 : Keeps P w K mg base 1 "merged" ["tokens", "merge", "token"] (sp_merged K)) :
    Keeps P w K mg base 2 "tokens_raw" ["vocabulary", "text"] (sp_tokens_raw K) := by
  refine F.keeps sc_tokens_raw b (fun vs H Q E h => ?_) (fun cdv A outer s H vs Q E hr h => ?_)
  · obtain ⟨a, ls, ms, x, rfl, _⟩ := h
    rfl
  obtain ⟨a, ls, ms, x, rfl, ⟨m, bs, hV, hM, hP⟩, l6, hl, hx, q⟩ := h
  have nd := sc_tokens_raw.nd
  have e : (sT ls).cps.toList = ls := by
    show ls.toArray.toList = ls
    rw [List.toList_toArray]
  refine ⟨_, pss_cons (ps_set (i := 2) nd rfl (.inr rfl) (pe_ix ix_tup (pv 0) pe_int (fun _ _ => rfl)))
    (pss_cons (ps_setLc (i := 3) (own := [("sign", 6)]) (g := gName 6) (tt := tYes) rfl nd rfl rfl (sw_true rfl rfl rfl (by decide +kernel)) (pi_str (pv 1)) (blkOk_by (N := ["vocabulary", "text", "letters", "found", "at", "merge", "sign"]) (sc := defScope st_tokens_raw) (by decide +kernel))
        (fun _ _ _ _ _ => pg_name (i := 6) nd rfl (.inl rfl)) (fun _ _ _ _ _ => pts_nil) (fun _ _ _ _ _ => pe_op op_add pe_int (pe_m1 PySem.F.slot_str_index PySem.F.type_str_index mt_sindex (pv 2) (pv 6))))
    (pss_cons (ps_for PassesOwn.never rfl (pi_enumT (by rfl) (G.blt _ (by decide)) (pa_cons (pe_ix ix_tup (pv 0) pe_int (fun _ _ => rfl)) pa_nil)) (pg_tup rfl (pgs_cons (pg_name (i := 4) nd rfl (.inl rfl)) (pgs_cons (pg_name (i := 5) nd rfl (.inl rfl)) pgs_nil)))
      (pss_one (ps_set (i := 3) nd rfl (.inl rfl) (pe_def k1 hr (by rfl) (pa_cons (pv 3) (pa_cons (pv 5) (pa_cons (pe_op op_add (pe_op op_add pe_int (pe_callB call_len_str (by rfl) (G.blt _ (by decide)) PySem.boot_len (pa_cons (pv 2) pa_nil))) (pv 4)) pa_nil)))))))
    (pss_one (ps_ret (pv 3))))), ?_⟩
  refine ⟨_, rfl, a, _, 1, _, rfl, rfl, hV, at1, ?_⟩
  refine ⟨_, rfl, sT x, rfl, fun D hD => ?_⟩
  have hxl : (sT x).cps.size = x.length := sT_len x
  refine lc_map (walk_str (z := sT x)) (rowV (row0 ls x)) (by unfold rowV row0; rw [hxl]; simp) (by rw [hxl]; omega) hD (fun _ _ => trivial) (fun _ => rfl) (fun i v H2 H3 y hy s2 Y R k => ?_) fun H2 s2 e2 => ?_
  · obtain ⟨rfl, c, hc, rfl⟩ := Y
    have hc2 : x[i]? = some c := by
      have hc2 : x.toArray[i]? = some c := hc
      simpa using hc2
    have hm : c ∈ ls := hx c (List.mem_of_getElem? hc2)
    unfold rowV row0 at hy
    rw [List.getElem?_map, List.getElem?_map, hc2] at hy
    have ey : nV (letterTok ls c) = y := Option.some.inj hy
    obtain ⟨rest, ho⟩ := occ_idx hm
    refine ⟨_, rfl, ⟨_, rfl⟩, _, rfl, sT ls, ⟨#[c]⟩, _, rest, rfl, rfl, ho, 1, _, rfl, rfl, ?_⟩
    have e3 : V.int (1 + ((ls.idxOf c : Nat) : Int)) = y := by
      rw [← ey]
      unfold nV letterTok
      congr 1
    show R (V.int (1 + ((ls.idxOf c : Nat) : Int))) H3
    rw [e3]
    exact k _ (Same.refl _)
  · have hbl : (bs.map V.ref).length = ms.length := by rw [List.length_map, hP.1]
    refine ⟨_, rfl, a, _, 2, _, rfl, rfl, Same.tup s2 hV, at2, m, _, rfl, Same.tup s2 hM, ?_⟩
    refine for_it walk_enumT (fun i σ H3 => ∃ o y4 y5 y6, σ = [some (.ref a), some (sV x), some (sV ls), some (.ref o), y4, y5, y6] ∧ Same H H3 ∧ H o = none ∧ H3 o = some (.lst (rowV (mergesFrom (1 + ls.length) (ms.take i) (row0 ls x)))))
      ⟨D, _, _, _, rfl, s2, hD, e2⟩ (fun i σ H3 _ ⟨_, _, _, _, _, s3, _⟩ => Same.tup s3 hM) (fun i v σ H3 H4 hi ⟨o, y4, y5, y6, es, s3, no, eo⟩ Y => ?_) fun σ H3 ⟨o, y4, y5, y6, es, s3, no, eo⟩ => ?_
    · subst es
      obtain ⟨T, x1, x2, rfl, nT, rfl, e1, e2'⟩ := Y
      have ex1 : V.int (i : Nat) = x1 := Option.some.inj e1
      subst ex1
      obtain ⟨b, hb, rfl⟩ := ref_at e2'
      have hi2 : i < ms.length := by rw [← hbl]; exact hi
      have hm : ms[i]? = some ms[i] := List.getElem?_eq_getElem hi2
      have s4 := s3.trans (Same.new (o := .tup [.int (i : Nat), .ref b]) nT)
      have eo4 : (upd H3 T (.tup [.int (i : Nat), .ref b])) o = some (.lst (rowV (mergesFrom (1 + ls.length) (ms.take i) (row0 ls x)))) := by
        rw [upd_ne (ne_of_none eo nT)]
        exact eo
      refine ⟨T, _, rfl, .inl (.inl upd_same), rfl, _, _, rfl, _, _, rfl, rfl, ?_⟩
      refine ⟨_, rfl, _, rfl, _, rfl, sT ls, rfl, by rw [sT_len]; exact line_small (by omega), _, _, rfl, rfl, _, rfl, _, _, rfl, rfl, o, b, _, ms[i], 1 + ls.length + i, ?_, .inl (.inl eo4), Same.tup s4 (hP.2 i b _ hb hm), ?_, fun H5 o2 s5 no2 eo2 => ?_⟩
      · show [V.ref o, V.ref b, V.int (1 + ((sT ls).length : Int) + (i : Int))] = [V.ref o, V.ref b, V.int ((1 + ls.length + i : Nat) : Int)]
        rw [sT_len]
        congr 3
      · refine Nat.le_trans (mergesFrom_len _ _ _) ?_
        unfold row0
        rw [List.length_map]
        exact hl
      · refine ⟨o2, _, _, _, rfl, s4.trans s5, s4.free no2, ?_⟩
        rw [eo2, mergesFrom_take hm]
    · subst es
      have et : ms.take (bs.map V.ref).length = ms := by rw [hbl, List.take_length]
      rw [et] at eo
      exact ⟨_, rfl, q H3 o s3 no eo⟩
end
end TK
end
section
set_option Elab.async false
set_option linter.all false
set_option maxRecDepth 100000
set_option maxHeartbeats 8000000
/-! Plain facts: the letters of texts, counts in a dict, the first of the most. -/
namespace TK
open PySem PySem.Spec L2
open PyProof.Rows TL
/-! ### letters -/
def one (c : Nat) : Str := ⟨#[c]⟩
def LetsOf (z ls : List Nat) : Prop := ls.Pairwise (· < ·) ∧ ∀ c, c ∈ ls ↔ c ∈ z
theorem lets_one {z ls ls' : List Nat} (h : LetsOf z ls) (h' : LetsOf z ls') : ls = ls' := by
  have nd : ∀ {l : List Nat}, l.Pairwise (· < ·) → l.Nodup := fun {l} h => h.imp fun hab e => by omega
  have hp : ls.Perm ls' := (List.perm_ext_iff_of_nodup (nd h.1) (nd h'.1)).mpr fun c => (h.2 c).trans (h'.2 c).symm
  exact List.Perm.eq_of_pairwise (le := (· < ·)) (fun a b _ _ h1 h2 => by omega) h.1 h'.1 hp
theorem lets_perm {z z' ls : List Nat} (h : LetsOf z ls) (e : ∀ c, c ∈ z ↔ c ∈ z') : LetsOf z' ls := ⟨h.1, fun c => (h.2 c).trans (e c)⟩
theorem rising_le : ∀ (p : Nat) (ls : List Nat), risingS (one p) (ls.map one) = true → (p :: ls).Pairwise (· ≤ ·)
  | p, [], _ => List.pairwise_singleton _ _
  | p, x :: r, h => by
    have h2 : (!ltCps [x] [p] && risingS (one x) (r.map one)) = true := h
    rw [Bool.and_eq_true] at h2
    have ih := rising_le x r h2.2
    have hpx : p ≤ x := by
      have h3 := h2.1
      simp [ltCps] at h3
      exact h3
    refine List.pairwise_cons.mpr ⟨fun y hy => ?_, ih⟩
    rcases List.mem_cons.mp hy with e | e
    · rw [e]; exact hpx
    · exact Nat.le_trans hpx (List.rel_of_pairwise_cons ih e)
theorem sorted_le {ls : List Nat} (h : sortedS (ls.map one) = true) : ls.Pairwise (· ≤ ·) := by
  cases ls with
  | nil => exact .nil
  | cons x r => exact rising_le x r h
theorem one_inj {a b : Nat} (h : one a = one b) : a = b := by
  unfold one at h
  injection h with h
  simpa using h
theorem lets_sorted {ys ks : List Str} {z : List Nat} (pk : ys.Perm ks) (nd : ks.Nodup) (hm : ∀ y, y ∈ ks ↔ ∃ c ∈ z, y = one c) (hs : sortedS ys = true) : ∃ ls, LetsOf z ls ∧ ys = ls.map one := by
  have ey : ys = (ys.map fun y => y.cps.getD 0 0).map one := by
    rw [List.map_map]
    refine (List.map_congr_left (g := id) fun y hy => ?_).trans (List.map_id _) |>.symm
    obtain ⟨c, _, e⟩ := (hm y).mp (pk.mem_iff.mp hy)
    subst e
    rfl
  refine ⟨ys.map fun y => y.cps.getD 0 0, ⟨?_, fun c => ?_⟩, ey⟩
  · rw [ey] at hs
    have h1 := sorted_le hs
    have h2 : (ys.map fun y => y.cps.getD 0 0).Nodup := by
      have n1 : ys.Nodup := pk.nodup_iff.mpr nd
      rw [ey] at n1
      unfold List.Nodup at n1 ⊢
      rw [List.pairwise_map] at n1
      exact n1.imp fun {a b} hab e => hab (by rw [e])
    exact (h1.and h2).imp fun {a b} hab => by omega
  · rw [List.mem_map]
    constructor
    · rintro ⟨y, hy, e⟩
      obtain ⟨d, hd, e2⟩ := (hm y).mp (pk.mem_iff.mp hy)
      subst e2
      have e3 : d = c := e
      exact e3 ▸ hd
    · intro hc
      exact ⟨one c, pk.mem_iff.mpr ((hm _).mpr ⟨c, hc, rfl⟩), rfl⟩
theorem join_ones (ls : List Nat) : Txt.join (Str.ofString "") (ls.map one) = sT ls := by
  have e : ls.map one = (ls.map fun c => [c]).map sT := by
    rw [List.map_map]
    exact List.map_congr_left fun c _ => rfl
  rw [e, join_texts]
  congr 1
  induction ls with
  | nil => rfl
  | cons c r ih => rw [List.map_cons, List.flatten_cons, ih (by rw [List.map_map]; exact List.map_congr_left fun c _ => rfl)]; rfl
/-! ### counts in a dict -/
def kk (p : P2) : List Key := [.inl (p.1 : Int), .inl (p.2 : Int)]
theorem kk_inj {p q : P2} (h : kk p = kk q) : p = q := by
  unfold kk at h
  injection h with h1 h2
  injection h2 with h2 _
  injection h1 with h1
  injection h2 with h2
  exact Prod.ext (by omega) (by omega)
theorem kk_pair (p : P2) : (kk p).map kV = pairV p := rfl
/-- the pairs of l with how often each stands in it -/
def Cnts (kvs : List (List Key × V)) (l : List P2) : Prop := ∃ ps : List P2, ps.Nodup ∧ (∀ p, p ∈ ps ↔ p ∈ l) ∧ kvs = ps.map fun p => (kk p, nV (l.count p))
theorem Cnts.nil : Cnts [] [] := ⟨[], .nil, fun p => by simp, rfl⟩
theorem nodup_len : ∀ {ps l : List P2}, ps.Nodup → (∀ p ∈ ps, p ∈ l) → ps.length ≤ l.length
  | [], _, _, _ => Nat.zero_le _
  | p :: ps, l, h, hs => by
    have h1 := List.nodup_cons.mp h
    have hp := hs p List.mem_cons_self
    have := nodup_len (ps := ps) (l := l.erase p) h1.2 fun q hq => (List.mem_erase_of_ne fun (e : q = p) => h1.1 (e ▸ hq)).mpr (hs q (List.mem_cons_of_mem _ hq))
    rw [List.length_erase_of_mem hp] at this
    have := List.length_pos_of_mem hp
    rw [List.length_cons]
    omega
theorem Cnts.len {kvs : List (List Key × V)} {l : List P2} (c : Cnts kvs l) : kvs.length ≤ l.length := by
  obtain ⟨ps, h1, h2, rfl⟩ := c
  rw [List.length_map]
  exact nodup_len h1 fun p hp => (h2 p).mp hp
theorem val_map {f : P2 → V} : ∀ (ps : List P2) (p : P2), valV (ps.map fun p => (kk p, f p)) (kk p) = if p ∈ ps then some (f p) else none
  | [], p => by simp [valV_nil]
  | q :: ps, p => by
    by_cases e : q = p
    · subst e
      rw [List.map_cons, valV_pos rfl, if_pos List.mem_cons_self]
    · rw [List.map_cons, valV_neg (fun z => e (kk_inj z)), val_map ps p]
      by_cases h : p ∈ ps
      · rw [if_pos h, if_pos (List.mem_cons_of_mem _ h)]
      · rw [if_neg h, if_neg fun z => (List.mem_cons.mp z).elim (fun z => e z.symm) h]
theorem Cnts.val {kvs : List (List Key × V)} {l : List P2} (c : Cnts kvs l) (p : P2) : valV kvs (kk p) = if p ∈ l then some (nV (l.count p)) else none := by
  obtain ⟨ps, h1, h2, rfl⟩ := c
  rw [val_map]
  by_cases h : p ∈ l
  · rw [if_pos h, if_pos ((h2 p).mpr h)]
  · rw [if_neg h, if_neg fun z => h ((h2 p).mp z)]
theorem Cnts.get {kvs : List (List Key × V)} {l : List P2} (c : Cnts kvs l) (p : P2) : (valV kvs (kk p)).getD (.int 0) = nV (l.count p) := by
  rw [c.val]
  by_cases h : p ∈ l
  · rw [if_pos h]; rfl
  · rw [if_neg h, List.count_eq_zero.mpr h]; rfl
theorem Cnts.put {kvs : List (List Key × V)} {l : List P2} (c : Cnts kvs l) (p : P2) : Cnts (putK kvs (kk p) (nV (l.count p + 1))) (l ++ [p]) := by
  obtain ⟨ps, h1, h2, rfl⟩ := c
  have hany : ((ps.map fun p => (kk p, nV (l.count p))).any fun kv => decide (kv.1 = kk p)) = decide (p ∈ ps) := by
    rw [Bool.eq_iff_iff, List.any_map, List.any_eq_true, decide_eq_true_eq]
    constructor
    · rintro ⟨q, hq, e⟩
      have e2 : kk q = kk p := of_decide_eq_true e
      exact kk_inj e2 ▸ hq
    · intro h
      exact ⟨p, h, decide_eq_true rfl⟩
  unfold putK
  rw [hany]
  have ne : ∀ {q : P2}, q ≠ p → (l ++ [p]).count q = l.count q := fun {q} h => by
    rw [List.count_append, List.count_singleton]
    simp [Ne.symm h]
  have eq : (l ++ [p]).count p = l.count p + 1 := by
    rw [List.count_append, List.count_singleton]
    simp
  by_cases h : p ∈ ps
  · rw [if_pos (decide_eq_true h)]
    refine ⟨ps, h1, fun q => ?_, ?_⟩
    · rw [h2, List.mem_append, List.mem_singleton]
      exact ⟨.inl, fun z => z.elim id fun z => z ▸ (h2 p).mp h⟩
    · rw [List.map_map]
      refine List.map_congr_left fun q _ => ?_
      show (if kk q = kk p then (kk q, nV (l.count p + 1)) else (kk q, nV (l.count q))) = _
      by_cases e : q = p
      · subst e
        rw [if_pos rfl, eq]
      · rw [if_neg fun z => e (kk_inj z), ne e]
  · rw [if_neg fun z => h (of_decide_eq_true z)]
    refine ⟨ps ++ [p], ?_, fun q => ?_, ?_⟩
    · refine List.nodup_append.mpr ⟨h1, by simp, fun a ha b hb e => ?_⟩
      rw [List.mem_singleton.mp hb] at e
      exact h (e ▸ ha)
    · rw [List.mem_append, List.mem_append, h2]
    · rw [List.map_append, List.map_singleton, eq]
      congr 1
      refine List.map_congr_left fun q hq => ?_
      rw [ne fun z => h (z ▸ hq)]
/-! ### the first of the most -/
def Bst (c : P2 → Nat) (l : List P2) : Option P2 → Prop
  | none => ∀ q ∈ l, c q < 2
  | some p => p ∈ l ∧ 2 ≤ c p ∧ ∀ q ∈ l, c q < c p ∨ (c q = c p ∧ pairLe p q)
theorem Bst.none_step {c : P2 → Nat} {l : List P2} {x : P2} (h : Bst c l none) (hx : c x < 2) : Bst c (l ++ [x]) none := fun q hq => by
  rcases List.mem_append.mp hq with e | e
  · exact h q e
  · rw [List.mem_singleton.mp e]; exact hx
theorem pairLe_refl (p : P2) : pairLe p p := .inr ⟨rfl, Nat.le_refl _⟩
theorem Bst.first {c : P2 → Nat} {l : List P2} {x : P2} (h : Bst c l none) (hx : 2 ≤ c x) : Bst c (l ++ [x]) (some x) := ⟨by simp, hx, fun q hq => by
  rcases List.mem_append.mp hq with e | e
  · have := h q e
    exact .inl (by omega)
  · rw [List.mem_singleton.mp e]; exact .inr ⟨rfl, pairLe_refl _⟩⟩
theorem Bst.more {c : P2 → Nat} {l : List P2} {p x : P2} (h : Bst c l (some p)) (hx : c p < c x) : Bst c (l ++ [x]) (some x) := ⟨by simp, by have := h.2.1; omega, fun q hq => by
  rcases List.mem_append.mp hq with e | e
  · have := h.2.2 q e
    exact .inl (by omega)
  · rw [List.mem_singleton.mp e]; exact .inr ⟨rfl, pairLe_refl _⟩⟩
theorem Bst.stay {c : P2 → Nat} {l : List P2} {p x : P2} (h : Bst c l (some p)) (hx : ¬ c p < c x) (ho : pairLe p x) : Bst c (l ++ [x]) (some p) := ⟨List.mem_append_left _ h.1, h.2.1, fun q hq => by
  rcases List.mem_append.mp hq with e | e
  · exact h.2.2 q e
  · rw [List.mem_singleton.mp e]
    by_cases z : c x < c p
    · exact .inl z
    · exact .inr ⟨by omega, ho⟩⟩
theorem Bst.best {c : P2 → Nat} {f : List (List Nat)} {l : List P2} {o : Option P2} (h : Bst c l o) (hf : ∀ p ∈ l, fresh f p) (ha : ∀ q, fresh f q → q ∉ l → c q = 0) : BestC c f o := by
  cases o with
  | none =>
    intro q hq
    by_cases e : q ∈ l
    · exact h q e
    · rw [ha q hq e]; decide
  | some p =>
    refine ⟨hf p h.1, h.2.1, fun q hq => ?_⟩
    by_cases e : q ∈ l
    · exact h.2.2 q e
    · have := h.2.1
      have := ha q hq e
      exact .inl (by omega)
end TK
end
section
set_option Elab.async false
set_option linter.all false
set_option maxRecDepth 100000
set_option maxHeartbeats 8000000
/-! The walk, sixth part: texts of a training, counts of pairs, the pair that is merged next. -/
namespace TK
open PySem PySem.Spec L2
open PyProof.Rows TL
/-- rows at rs -/
def RowsAt (K : PySem.W.Frag) (H : Hp) (rs : List Addr) (rows : List (List Nat)) : Prop := rs.length = rows.length ∧ ∀ (i : Nat) r row, rs[i]? = some r → rows[i]? = some row → SqL K H r (rowV row)
theorem RowsAt.same {K : PySem.W.Frag} {H H' : Hp} {rs : List Addr} {rows : List (List Nat)} (h : RowsAt K H rs rows) (e : Same H H') : RowsAt K H' rs rows := ⟨h.1, fun i r row h1 h2 => e.seq (h.2 i r row h1 h2)⟩
theorem cut_tail (r : List Nat) : cutV (rowV r) (some 1) none = rowV (r.drop 1) := by
  unfold cutV rowV
  rw [show HT.sIx (r.map nV).length 0 (some 1) = min 1 (r.map nV).length from HT.sIx_nat _ 0 1, HT.sIx_none, List.length_map]
  cases r with
  | nil => rfl
  | cons x r =>
    rw [show min 1 (x :: r).length = 1 by
      rw [List.length_cons]
      omega]
    show List.take ((x :: r).length - 1) (r.map nV) = r.map nV
    exact List.take_of_length_le (by simp)
theorem adj_len (r : List Nat) : (adj r).length = min r.length (r.drop 1).length := List.length_zip ..
theorem adj_at {r : List Nat} {i : Nat} {x y : V} (hx : (rowV r)[i]? = some x) (hy : (rowV (r.drop 1))[i]? = some y) : ∃ p : P2, (adj r)[i]? = some p ∧ x = nV p.1 ∧ y = nV p.2 := by
  unfold rowV at hx hy
  rw [List.getElem?_map] at hx hy
  cases h1 : r[i]? with
  | none => rw [h1] at hx; cases hx
  | some a =>
    cases h2 : (r.drop 1)[i]? with
    | none => rw [h2] at hy; cases hy
    | some b =>
      rw [h1] at hx
      rw [h2] at hy
      exact ⟨(a, b), by unfold adj; rw [List.getElem?_zip_eq_some]; exact ⟨h1, h2⟩, (Option.some.inj hx).symm, (Option.some.inj hy).symm⟩
section
variable {P : Program} {w : World} {K : PySem.W.Frag} {mg : Str → Option Value} {base : Heap}
/-! ### are_texts -/
abbrev st_are_texts : Stmt := topS 25
theorem sc_are_texts : FnScope ["thing", "signs", "text", "sign"] ["thing"] (defScope st_are_texts) := ⟨rfl, rfl, rfl, by decide +kernel, rfl, by decide +kernel, by decide +kernel⟩
def sp_are_texts (K : PySem.W.Frag) : Sp := fun vs H Q _ => ∃ (t : Addr) (ts : List (List Nat)) (ls : List Nat), vs = [.ref t] ∧ SqT K H t (ts.map sV) ∧ ts.length ≤ 10 ∧ ts.flatten.length ≤ 1000 ∧ LetsOf ts.flatten ls ∧ Lets ls ∧ ∀ H', Same H H' → Q (.bl true) H'
theorem flat_sum (ts : List (List Nat)) : ((ts.map sT).map (·.length)).sum = ts.flatten.length := by
  induction ts with
  | nil => rfl
  | cons t ts ih =>
    rw [List.map_cons, List.map_cons, List.sum_cons, ih, List.flatten_cons, List.length_append, sT_len]
theorem flat_join {ts : List (List Nat)} (h : ts.flatten.length ≤ 1000) : ((ts.map sT).map (·.length)).sum + (ts.map sT).length * (Str.ofString "").length ≤ 16777216 := by
  rw [flat_sum, show (Str.ofString "").length = 0 by decide +kernel, Nat.mul_zero]
  omega
theorem map_sV (ts : List (List Nat)) : (ts.map sT).map V.str = ts.map sV := by
  rw [List.map_map]
  rfl
theorem sT_list (l : List Nat) : (sT l).cps.toList = l := by
  show l.toArray.toList = l
  rw [List.toList_toArray]
theorem k_are_texts {f : Addr} {fd : FuncData} (G : Names mg) (F : At K mg "are_texts" st_are_texts f fd) (b : Binds K fd ["thing"] []) : Keeps P w K mg base 1 "are_texts" ["thing"] (sp_are_texts K) := by
  refine F.keeps sc_are_texts b (fun vs H Q E h => ?_) (fun cdv A outer s H vs Q E hr h => ?_)
  · obtain ⟨t, ts, ls, rfl, _⟩ := h
    rfl
  obtain ⟨t, ts, ls, rfl, hT, h10, hz, hL, L, q⟩ := h
  have nd := sc_are_texts.nd
  obtain ⟨tS, gS⟩ := G.small
  obtain ⟨tL, gL⟩ := G.letters
  refine ⟨_, pss_cons (ps_if (PW.pt (pw_or (pt_not (pt_val (pe_isi (n := "tuple") (by rfl) (G.blt _ (by decide)) (by rfl) (G.blt _ (by decide)) boot_tuple (pv 0))))
      (pw_or1 (pt_not (pt_val (pe_callB (cr_all rfl) (by rfl) (G.blt _ (by decide)) (by decide +kernel) (pa_cons (pe_lc (own := [("text", 2)]) (g := gName 2) (tt := tYes) (te := tIsi K "str" (tVar 2)) rfl nd (pi_tup (pv 0)) (blkOk_by (N := ["thing", "signs", "text", "sign"]) (sc := defScope st_are_texts) (by decide +kernel))
        (fun _ _ _ _ _ => pg_name (i := 2) nd rfl (.inl rfl)) (fun _ _ _ _ _ => pts_nil) (fun _ _ _ _ _ => pe_isi (n := "str") (by rfl) (G.blt _ (by decide)) (by rfl) (G.blt _ (by decide)) boot_str (pv 2))) pa_nil))))))) (pss_one (ps_ret pe_bl)) pss_nil)
    (pss_cons (ps_set (i := 1) nd rfl (.inl rfl) (pe_callB (cr_sortedS2 rfl) (by rfl) (G.blt _ (by decide)) (by decide +kernel) (pa_cons (pe_callTy (cr_setS rfl) (by rfl) (G.blt _ (by decide)) boot_set (pa_cons (pe_join pe_str (pv 0)) pa_nil)) pa_nil)))
    (pss_one (ps_ret (pe_and (pe_chain op_le op_le pe_int (pe_callB call_len_seq (by rfl) (G.blt _ (by decide)) PySem.boot_len (pa_cons (pv 1) pa_nil)) (pe_glob (v := .int 6) (by rfl) gL ⟨_, rfl⟩))
      (pe_one (pe_callB (cr_all rfl) (by rfl) (G.blt _ (by decide)) (by decide +kernel) (pa_cons (pe_lc (own := [("sign", 3)]) (g := gName 3) (tt := tYes) rfl nd (pi_list (pv 1)) (blkOk_by (N := ["thing", "signs", "text", "sign"]) (sc := defScope st_are_texts) (by decide +kernel))
        (fun _ _ _ _ _ => pg_name (i := 3) nd rfl (.inl rfl)) (fun _ _ _ _ _ => pts_nil) (fun _ _ _ _ _ => pe_cmpR op_in_sign (pv 3) (pe_glob (v := .str "abcdefghijklmnopqrstuvwxyz") (by rfl) gS ⟨_, rfl⟩) (by rfl))) pa_nil))))))), ?_⟩
  refine ⟨_, rfl, _, _, _, _, true, rfl, .ty _, tyT hT, kit_ty (by decide +kernel), true, rfl, iteF ?_⟩
  refine ⟨_, rfl, t, rfl, ⟨_, hT⟩, fun D hD => ?_⟩
  refine lc_map (walk_tup (xs := ts.map sV)) ((List.replicate ts.length true).map V.bl) (by simp) (by rw [List.length_map]; omega) hD (fun _ s2 => Same.tup s2 hT) (fun _ => rfl) (fun i x H2 H3 y hy s2 Y R k => ?_) fun H1 s1 e1 => ?_
  · obtain ⟨rfl, hx⟩ := Y
    have ey : y = .bl true := by
      rw [List.getElem?_map, List.getElem?_replicate] at hy
      split at hy
      · exact (Option.some.inj hy).symm
      · cases hy
    rw [List.getElem?_map] at hx
    cases hc : ts[i]? with
    | none => rw [hc] at hx; cases hx
    | some z =>
      rw [hc] at hx
      have ex : sV z = x := Option.some.inj hx
      subst ex
      refine ⟨_, rfl, _, _, _, _, true, rfl, .ty _, .base (.str _), kit_ty (by decide +kernel), ?_⟩
      rw [← ey]
      exact k _ (Same.refl _)
  refine ⟨D, _, rfl, .inl (.inl e1), true, congrArg V.bl (all_true _), iteF ?_⟩
  refine ⟨⟨_, rfl⟩, _, rfl, _, t, ts.map sT, rfl, rfl, .inr (by rw [map_sV]; exact Same.tup s1 hT), flat_join hz, ?_⟩
  rw [join_texts]
  refine .inl ⟨sT ts.flatten, rfl, by rw [sT_len]; omega, fun p ks np nk hk => ?_⟩
  have hk2 : ∀ y, y ∈ ks ↔ ∃ c ∈ ts.flatten, y = one c := fun y => by
    rw [hk, sT_list]
    rfl
  have s2 := s1.trans (Same.new (o := SsO w p ks) np)
  have hls : ∀ ys : List Str, ys.Perm ks → sortedS ys = true → ys = ls.map one := fun ys pk hs => by
    obtain ⟨l2, h1, h2⟩ := lets_sorted pk nk hk2 hs
    rw [h2, lets_one h1 hL]
  have hlen : ks.length = ls.length := by
    have : ks.Perm (ls.map one) := (List.perm_ext_iff_of_nodup nk (by
      unfold List.Nodup
      rw [List.pairwise_map]
      exact L.nd.imp fun {a b} hab e => hab (one_inj e))).mpr fun y => by
        rw [hk2, List.mem_map]
        constructor
        · rintro ⟨c, h1, h2⟩
          exact ⟨c, (hL.2 c).mpr h1, h2.symm⟩
        · rintro ⟨c, h1, h2⟩
          exact ⟨c, (hL.2 c).mp h1, h2.symm⟩
    rw [this.length_eq, List.length_map]
  have l1 := L.pos
  have l6 := L.most
  refine ⟨p, ks, rfl, upd_same, by omega, fun ys o pk hs no => ?_⟩
  obtain rfl := hls ys pk hs
  have s3 := s2.trans (Same.new (o := .lst ((ls.map one).map V.str)) no)
  have eo : ((ls.map one).map V.str).length = ls.length := by rw [List.length_map, List.length_map]
  refine ⟨_, rfl, o, _, rfl, .inl (.inl (.inl upd_same)), _, _, rfl, rfl, _, rfl, iteD (by rw [eo]; omega) ⟨_, _, rfl, rfl, ?_⟩⟩
  refine ⟨true, congrArg V.bl (decide_eq_true (by rw [eo]; omega)), iteT ?_⟩
  refine ⟨_, rfl, o, rfl, ⟨_, .inl (.inl upd_same)⟩, fun D2 hD2 => ?_⟩
  have s3o : SqL K (upd (upd H1 p (SsO w p ks)) o (.lst ((ls.map one).map V.str))) o ((ls.map one).map V.str) := .inl (.inl upd_same)
  refine lc_map (walk_list (xs := (ls.map one).map V.str)) ((List.replicate ls.length true).map V.bl) (by simp) (by rw [eo]; omega) hD2 (fun _ s4 => s4.seq s3o) (fun _ => rfl) (fun i x H2 H3 y hy s4 Y R k => ?_) fun H2 s4 e2 => ?_
  · obtain ⟨rfl, hx⟩ := Y
    have ey : y = .bl true := by
      rw [List.getElem?_map, List.getElem?_replicate] at hy
      split at hy
      · exact (Option.some.inj hy).symm
      · cases hy
    rw [List.getElem?_map, List.getElem?_map] at hx
    cases hc : ls[i]? with
    | none => rw [hc] at hx; cases hx
    | some c =>
      rw [hc] at hx
      have ex : V.str (one c) = x := Option.some.inj hx
      subst ex
      refine ⟨_, rfl, c, _, rfl, rfl, ?_⟩
      rw [decide_eq_true (small_has (L.low c (List.mem_of_getElem? hc))), ← ey]
      exact k _ (Same.refl _)
  · refine ⟨D2, _, rfl, .inl (.inl e2), ?_⟩
    rw [all_true]
    exact q _ (s3.trans s4)
/-! ### pair_counts -/
abbrev st_pair_counts : Stmt := topS 26
theorem sc_pair_counts : FnScope ["rows", "found", "row", "pair"] ["rows"] (defScope st_pair_counts) := ⟨rfl, rfl, rfl, by decide +kernel, rfl, by decide +kernel, by decide +kernel⟩
def sp_pair_counts (K : PySem.W.Frag) : Sp := fun vs H Q _ => ∃ (a : Addr) (rs : List Addr) (rows : List (List Nat)), vs = [.ref a] ∧ SqL K H a (rs.map V.ref) ∧ RowsAt K H rs rows ∧ (allAdj rows).length ≤ 100000 ∧
  ∀ H' d kvs, Same H H' → H d = none → H' d = some (.dT kvs) → Cnts kvs (allAdj rows) → Q (.ref d) H'
theorem allAdj_take {rows : List (List Nat)} {i : Nat} {row : List Nat} (h : rows[i]? = some row) : allAdj (rows.take (i + 1)) = allAdj (rows.take i) ++ adj row := by
  unfold allAdj
  rw [List.take_add_one, h, List.flatMap_append]
  simp
theorem allAdj_le (rows : List (List Nat)) (i : Nat) : (allAdj (rows.take i)).length ≤ (allAdj rows).length := by
  conv => rhs; rw [← List.take_append_drop i rows]
  unfold allAdj
  rw [List.flatMap_append, List.length_append]
  omega
theorem k_pair_counts {f : Addr} {fd : FuncData} (G : Names mg) (F : At K mg "pair_counts" st_pair_counts f fd) (b : Binds K fd ["rows"] []) : Keeps P w K mg base 1 "pair_counts" ["rows"] (sp_pair_counts K) := by
  refine F.keeps sc_pair_counts b (fun vs H Q E h => ?_) (fun cdv A outer s H vs Q E hr h => ?_)
  · obtain ⟨a, rs, rows, rfl, _⟩ := h
    rfl
  obtain ⟨a, rs, rows, rfl, hA, hR, hbig, q⟩ := h
  have nd := sc_pair_counts.nd
  have hu := hu_of hr
  refine ⟨_, pss_cons (ps_set (i := 1) nd rfl (.inl rfl) pe_dnewT)
    (pss_cons (ps_for PassesOwn.never rfl (pi_list (pv 0)) (pg_name (i := 2) nd rfl (.inl rfl))
      (pss_one (zip_one PassesOwn.never rfl (by rfl) (G.blt _ (by decide)) (pa_cons (pv 2) (pa_cons (pe_slice sl_list (pv 2) (po_some pe_int) po_none) pa_nil)) (pg_name (i := 3) nd rfl (.inl rfl))
        (pss_one (ps_dput hu (pv 1) (pv 3) (pe_op op_add (pe_dget2 hu (pv 1) (pv 3) pe_int ⟨rfl, rfl, rfl, rfl⟩) pe_int) rfl)))))
    (pss_one (ps_ret (pv 1)))), ?_⟩
  intro d nd0
  refine ⟨_, rfl, a, rfl, ⟨_, (Same.new nd0).seq hA⟩, ?_⟩
  refine for_list (xs := rs.map V.ref) (fun i σ H3 => ∃ y2 y3 kvs, σ = [some (.ref a), some (.ref d), y2, y3] ∧ Same H H3 ∧ H3 d = some (.dT kvs) ∧ Cnts kvs (allAdj (rows.take i)))
    ⟨_, _, [], rfl, Same.new nd0, upd_same, by rw [List.take_zero]; exact Cnts.nil⟩ (fun i σ H3 _ ⟨_, _, _, _, s3, _⟩ => s3.seq hA) (fun i x σ H3 hx ⟨y2, y3, kvs, es, s3, ed, hc⟩ => ?_) fun σ H3 ⟨y2, y3, kvs, es, s3, ed, hc⟩ => ?_
  · subst es
    obtain ⟨r, hr2, rfl⟩ := ref_at hx
    have hi : i < rows.length := by
      have := (List.getElem?_eq_some_iff.mp hr2).1
      rw [← hR.1]
      exact this
    have hrow : rows[i]? = some rows[i] := List.getElem?_eq_getElem hi
    have hS := s3.seq (hR.2 i r _ hr2 hrow)
    refine ⟨_, rfl, _, rfl, _, rfl, r, _, rfl, hS, fun c nc => ?_⟩
    rw [cut_tail]
    have s4 := s3.trans (Same.new (o := .lst (rowV (rows[i].drop 1))) nc)
    have cd : c ≠ d := (ne_of_none ed nc).symm
    refine ⟨r, c, rowV rows[i], rowV (rows[i].drop 1), fun j σ H4 => ∃ y3 kvs, σ = [some (.ref a), some (.ref d), some (.ref r), y3] ∧ Same H H4 ∧ H4 c = some (.lst (rowV (rows[i].drop 1))) ∧ H4 d = some (.dT kvs) ∧ Cnts kvs (allAdj (rows.take i) ++ (adj rows[i]).take j),
      rfl, (Same.new nc).seq hS, .inl (.inl upd_same), ⟨_, kvs, rfl, s4, upd_same, by rw [upd_ne cd.symm]; exact ed, by rw [List.take_zero, List.append_nil]; exact hc⟩, ?_, ?_, ?_⟩
    · rintro j σ H4 ⟨_, _, _, s5, ec, _⟩
      exact ⟨s5.seq (hR.2 i r _ hr2 hrow), .inl (.inl ec)⟩
    · rintro j x y T σ H4 hx hy ⟨y3, kvs, rfl, s5, ec, ed4, hc4⟩ nT
      obtain ⟨p, hp, rfl, rfl⟩ := adj_at hx hy
      have dT : d ≠ T := ne_of_none ed4 nT
      have cT : c ≠ T := ne_of_none ec nT
      have ed5 : (upd H4 T (.tup [nV p.1, nV p.2])) d = some (.dT kvs) := by rw [upd_ne dT]; exact ed4
      have s6 := s5.trans (Same.new (o := .tup [nV p.1, nV p.2]) nT)
      have hlen : kvs.length < sizeLine := by
        have h1 := hc4.len
        have h2 : (allAdj (rows.take i) ++ (adj rows[i]).take j).length ≤ (allAdj rows).length := by
          refine Nat.le_trans ?_ (allAdj_le rows (i + 1))
          rw [allAdj_take hrow, List.length_append, List.length_append, List.length_take]
          omega
        exact line_lt (by omega)
      refine ⟨_, rfl, d, rfl, .inr ⟨kvs, .inl ed5⟩, _, rfl, _, DGet.t (k := kk p) ed5 upd_same, ?_⟩
      rw [hc4.get]
      refine ⟨_, _, rfl, rfl, _, rfl, _, rfl, d, _, rfl, DPut.t (k := kk p) ed5 upd_same hlen, ⟨_, _, rfl, fun x z ex => ?_, ?_, upd_same, ?_⟩, fun x zs ex => ?_⟩
      · rw [upd_ne (ne_of_none ex nd0)]
        exact s6 _ _ ex
      · rw [upd_ne cd, upd_ne cT]
        exact ec
      · have := hc4.put p
        rw [List.take_add_one, hp, ← List.append_assoc]
        exact this
      · have xd : x ≠ d := fun z => by
          rw [z, ed5] at ex
          cases ex
        rw [upd_ne xd]
        exact ex
    · rintro σ H4 ⟨y3, kvs, rfl, s5, ec, ed4, hc4⟩
      refine ⟨_, _, kvs, rfl, s5, ed4, ?_⟩
      rw [allAdj_take hrow]
      have e : (adj rows[i]).take (min (rowV rows[i]).length (rowV (rows[i].drop 1)).length) = adj rows[i] := List.take_of_length_le (by
        rw [adj_len]
        unfold rowV
        rw [List.length_map, List.length_map]
        omega)
      rwa [e] at hc4
  · subst es
    have e : rows.take (rs.map V.ref).length = rows := by rw [List.length_map, hR.1, List.take_length]
    rw [e] at hc
    exact ⟨_, rfl, q H3 d kvs s3 nd0 ed hc⟩
end
end TK
end
section
set_option Elab.async false
set_option linter.all false
set_option maxRecDepth 100000
set_option maxHeartbeats 8000000
/-! The walk, seventh part: the pair that is merged next. -/
namespace TK
open PySem PySem.Spec L2
open PyProof.Rows TL
/-- a list of those items that a test keeps, all else as it was -/
theorem lc_filter {J : It} {n : Nat} {G : Hp → Prop} {Y : Nat → Hp → V → Hp → Prop} (w : Walk J n G Y) {k : Nat} {tt : TT} {te : TE} {vs : List Nat} {σ : L2.St} {H1 : Hp} {D : Addr} {Qd : Hp → Prop} (xs : List V) (keep : V → Bool) (hn : xs.length = n) (hz : n ≤ 1000000) (hD : H1 D = none)
    (hG : ∀ H, Same H1 H → G H) (hw : ∀ x, wipe ((wipe σ vs).set k (some x)) vs = wipe σ vs) (hY : ∀ i H x H', Y i H x H' → H' = H ∧ xs[i]? = some x)
    (ht : ∀ x H, x ∈ xs → Same H1 H → ∀ Q : Bool → Hp → Prop, Q (keep x) H → tt ((wipe σ vs).set k (some x)) H Q)
    (he : ∀ x H, ∀ Q : VK, Q x H → te ((wipe σ vs).set k (some x)) H Q)
    (hd : ∀ H, Same H1 H → H D = some (.lst (xs.filter keep)) → Qd H) :
    ∃ W : Nat → Nat → Hp → Prop, (∃ m, W 0 m (upd H1 D (.lst []))) ∧ ∀ i m H, W i m H →
      (J.stop i H ∧ Qd H) ∨ (J.go i H ∧ ∃ Nx : Hp → Prop, (∀ H', Nx H' → ∃ m', m' < m ∧ W (i + 1) m' H') ∧ ∀ x H', J.yld i H x H' → gName k x (wipe σ vs) H' fun σ2 H2 => wipe σ2 vs = wipe σ vs ∧ tt σ2 H2 fun b H3 =>
        if b = true then te σ2 H3 fun y H4 => ∃ acc, H4 D = some (.lst acc) ∧ acc.length < sizeLine ∧ Nx (upd H4 D (.lst (acc ++ [y]))) else Nx H3) := by
  subst hn
  refine lc_it w (fun i H => Same H1 H ∧ H D = some (.lst ((xs.take i).filter keep))) ⟨Same.new hD, upd_same⟩ (fun i H _ h => hG H h.1) (fun i x H H' hi h y => ?_) fun H h => hd H h.1 (by rw [h.2, List.take_length])
  obtain ⟨h1, h2⟩ := h
  obtain ⟨rfl, hx⟩ := hY _ _ _ _ y
  have st : (xs.take (i + 1)).filter keep = if keep x = true then (xs.take i).filter keep ++ [x] else (xs.take i).filter keep := by
    rw [List.take_add_one, hx, List.filter_append]
    show _ ++ [x].filter keep = _
    cases hk : keep x with
    | true => simp [hk]
    | false => simp [hk]
  refine ⟨hw x, ht x _ (List.mem_of_getElem? hx) h1 _ ?_⟩
  by_cases hk : keep x = true
  · simp only [hk, if_true] at st ⊢
    refine he x _ _ ⟨_, h2, ?_, fun b o e => ?_, ?_⟩
    · refine Nat.lt_of_le_of_lt (List.length_filter_le _ _) ?_
      rw [List.length_take]
      exact line_lt (by omega)
    · rw [upd_ne (ne_of_none e hD)]
      exact h1 _ _ e
    · rw [upd_same, st]
  · have hk2 : keep x = false := by
      cases h : keep x with
      | true => exact absurd h hk
      | false => rfl
    simp only [hk2, Bool.false_eq_true, if_false] at st ⊢
    exact ⟨h1, by rw [h2, st]⟩
/-! ### keys that are pairs -/
def tupOf : Option HO → P2
  | some (.tup [.int i, .int j]) => (i.toNat, j.toNat)
  | _ => (0, 0)
def pOf (H : Hp) : V → P2
  | .ref b => tupOf (H b)
  | _ => (0, 0)
theorem pOf_at {H : Hp} {b : Addr} {p : P2} (h : H b = some (.tup (pairV p))) : pOf H (.ref b) = p := by
  show tupOf (H b) = p
  rw [h]
  show ((p.1 : Int).toNat, (p.2 : Int).toNat) = p
  rw [Int.toNat_natCast, Int.toNat_natCast]
theorem keys_at {H : Hp} {g : P2 → V} : ∀ {ps : List P2} {bs : List Addr}, IsKeys H (ps.map fun p => (kk p, g p)) bs → (bs.map V.ref).map (pOf H) = ps ∧ ∀ b ∈ bs, H b = some (.tup (pairV (pOf H (.ref b))))
  | [], bs, h => by
    cases h
    exact ⟨rfl, fun _ hb => nomatch hb⟩
  | p :: ps, bs, h => by
    cases h with
    | cons r t =>
      obtain ⟨h1, h2⟩ := keys_at t
      have e := pOf_at (show H _ = some (.tup (pairV p)) from r)
      refine ⟨by rw [List.map_cons, List.map_cons, e, h1], fun c hc => ?_⟩
      rcases List.mem_cons.mp hc with z | z
      · rw [z, e]; exact r
      · exact h2 c z
theorem inV_sV (x : List Nat) : ∀ f : List (List Nat), inV (sV x) (f.map sV) = decide (x ∈ f)
  | [] => rfl
  | y :: f => by
    show (eqV (sV y) (sV x) || inV (sV x) (f.map sV)) = _
    rw [inV_sV x f, Bool.eq_iff_iff]
    have e : eqV (sV y) (sV x) = decide (y = x) := by
      show (sT y == sT x) = _
      rw [Bool.eq_iff_iff, beq_iff_eq, decide_eq_true_eq]
      exact ⟨sT_inj, fun z => by rw [z]⟩
    rw [e]
    simp only [Bool.or_eq_true, decide_eq_true_eq, List.mem_cons]
    exact ⟨fun z => z.imp Eq.symm id, fun z => z.imp Eq.symm id⟩
theorem not_in_fresh (f : List (List Nat)) (p : P2) : (!decide (joined f p ∈ f)) = decide (fresh f p) := by
  rw [Bool.eq_iff_iff, Bool.not_eq_true', decide_eq_false_iff_not, decide_eq_true_eq]
  rfl
theorem flat_sVs (f : List (List Nat)) : (f.map sV).all flatV = true := by
  rw [List.all_map, List.all_eq_true]
  intro x _
  rfl
theorem pcs_atI {ls : List Nat} {ms : List P2} {t : Nat} (h : t < 1 + ls.length + ms.length) : atI ((pcs ls ms).map sV) (t : Int) = some (sV (piece (pcs ls ms) t)) := pcs_at (n := 0) h
theorem lex_le {H : Hp} {x y : V} (h : ltP (fun v => (((pOf H v).1 : Int), ((pOf H v).2 : Int))) y x = false) : pairLe (pOf H x) (pOf H y) := by
  have h2 : ¬ (((pOf H y).1 : Int) < (pOf H x).1 ∨ (((pOf H y).1 : Int) = (pOf H x).1 ∧ ((pOf H y).2 : Int) < (pOf H x).2)) := fun z => by
    have := (SrtO.lexB_iff (p := (((pOf H y).1 : Int), ((pOf H y).2 : Int))) (q := (((pOf H x).1 : Int), ((pOf H x).2 : Int)))).mpr z
    exact Bool.noConfusion (h.symm.trans this)
  unfold pairLe
  omega
section
variable {P : Program} {w : World} {K : PySem.W.Frag} {mg : Str → Option Value} {base : Heap}
/-! ### best_pair -/
abbrev st_best_pair : Stmt := topS 27
theorem sc_best_pair : FnScope ["rows", "pieces", "counts", "some", "found", "pair"] ["rows", "pieces"] (defScope st_best_pair) := ⟨rfl, rfl, rfl, by decide +kernel, rfl, by decide +kernel, by decide +kernel⟩
def sp_best_pair (K : PySem.W.Frag) : Sp := fun vs H Q _ => ∃ (a c : Addr) (rs : List Addr) (rows : List (List Nat)) (ls : List Nat) (ms : List P2), vs = [.ref a, .ref c] ∧ SqL K H a (rs.map V.ref) ∧ RowsAt K H rs rows ∧ (allAdj rows).length ≤ 100000 ∧
  H c = some (.lst ((pcs ls ms).map sV)) ∧ ms.length ≤ 10 ∧ (∀ p ∈ allAdj rows, p.1 < 1 + ls.length + ms.length ∧ p.2 < 1 + ls.length + ms.length) ∧
  (best rows (pcs ls ms) = none → ∀ H', Same H H' → Q .non H') ∧ ∀ p, best rows (pcs ls ms) = some p → ∀ H' b, Same H H' → H' b = some (.tup (pairV p)) → Q (.ref b) H'
theorem k_best_pair {f : Addr} {fd : FuncData} (G : Names mg) (F : At K mg "best_pair" st_best_pair f fd) (b : Binds K fd ["rows", "pieces"] []) (k1 : Keeps P w K mg base 1 "pair_counts" ["rows"] (sp_pair_counts K)) : Keeps P w K mg base 2 "best_pair" ["rows", "pieces"] (sp_best_pair K) := by
  refine F.keeps sc_best_pair b (fun vs H Q E h => ?_) (fun cdv A outer s H vs Q E hr h => ?_)
  · obtain ⟨a, c, rs, rows, ls, ms, rfl, _⟩ := h
    rfl
  obtain ⟨a, c, rs, rows, ls, ms, rfl, hA, hR, hbig, hc, l10, hlt, q0, q1⟩ := h
  have nd := sc_best_pair.nd
  have hu := hu_of hr
  refine ⟨_, pss_cons (ps_set (i := 2) nd rfl (.inl rfl) (pe_def k1 hr (by rfl) (pa_cons (pv 0) pa_nil)))
    (pss_cons (ps_setLc (i := 3) (own := [("pair", 5)]) (g := gName 5) rfl nd rfl rfl (sw_true rfl rfl rfl (by decide +kernel)) (pi_list (pe_callB (cr_sortedDT rfl) (by rfl) (G.blt _ (by decide)) (by decide +kernel) (pa_cons (pv 2) pa_nil))) (blkOk_by (N := ["rows", "pieces", "counts", "some", "found", "pair"]) (sc := defScope st_best_pair) (by decide +kernel))
        (fun _ _ _ _ _ => pg_name (i := 5) nd rfl (.inl rfl))
        (fun _ _ _ _ _ => pts_one (pt_cmpR (r := rIn K true) op_notIn_seq (pe_op op_add_str (pe_ix (r := rIxL K) ix_list (pv 1) (pe_ix (r := rIxT K) ix_tup (pv 5) pe_int (fun _ _ => rfl)) (fun _ _ => rfl)) (pe_ix (r := rIxL K) ix_list (pv 1) (pe_ix (r := rIxT K) ix_tup (pv 5) pe_int (fun _ _ => rfl)) (fun _ _ => rfl))) (pv 1) (by rfl)))
        (fun _ _ _ _ _ => pv 5))
    (pss_cons (ps_set (i := 4) nd rfl (.inl rfl) pe_non)
    (pss_cons (ps_for PassesOwn.never rfl (pi_list (pv 3)) (pg_name (i := 5) nd rfl (.inl rfl))
      (pss_one (ps_if (PW.pt (pw_and (pt_cmpR op_ge (pe_dget hu (pv 2) (pv 5) (fun _ _ => rfl)) pe_int (nomark _)) (pw_and1 (PW.pt (pw_or (pt_cmpR op_isN (pv 4) pe_non (nomark _)) (pw_or1 (pt_cmpR op_gt (pe_dget hu (pv 2) (pv 5) (fun _ _ => rfl)) (pe_dget hu (pv 2) (pv 4) (fun _ _ => rfl)) (nomark _))))))))
        (pss_one (ps_set (i := 4) nd rfl (.inl rfl) (pv 5))) pss_nil)))
    (pss_one (ps_ret (pv 4)))))), ?_⟩
  refine ⟨_, rfl, a, rs, rows, rfl, hA, hR, hbig, fun H1 d kvs s1 nd0 ed hC => ?_⟩
  obtain ⟨ps, hnd, hmem, rfl⟩ := id hC
  have kat : ∀ {bs : List Addr}, IsKeys H1 (ps.map fun p => (kk p, nV ((allAdj rows).count p))) bs → _ := fun {bs} h => keys_at h
  refine ⟨_, rfl, d, _, fun v => (((pOf H1 v).1 : Int), ((pOf H1 v).2 : Int)), rfl, .inl ed, fun bs hK b hb => (kat hK).2 b hb, fun bs zs o hK hS hB no => ?_⟩
  obtain ⟨km, kb⟩ := kat hK
  have hz1 : ∀ z ∈ zs, ∃ b, z = .ref b ∧ H1 b = some (.tup (pairV (pOf H1 z))) := fun z hz => by
    obtain ⟨b, hb, rfl⟩ := List.mem_map.mp (hB.perm.mem_iff.mp hz)
    exact ⟨b, rfl, kb b hb⟩
  have hz2 : (zs.map (pOf H1)).Perm ps := by
    have := hB.perm.map (pOf H1)
    rwa [km] at this
  have hz3 : ∀ z ∈ zs, pOf H1 z ∈ allAdj rows := fun z hz => (hmem _).mp (hz2.mem_iff.mp (List.mem_map_of_mem hz))
  have hzn : zs.length ≤ 100000 := by
    have e : zs.length = ps.length := by rw [← hz2.length_eq, List.length_map]
    rw [e]
    exact Nat.le_trans (nodup_len hnd fun p hp => (hmem p).mp hp) hbig
  have s2 : Same H1 (upd H1 o (.lst zs)) := Same.new no
  refine ⟨o, rfl, ⟨zs, .inl (.inl upd_same)⟩, fun D hD => ?_⟩
  have zq : SqL K (upd H1 o (.lst zs)) o zs := .inl (.inl upd_same)
  refine lc_filter (walk_list (xs := zs)) zs (fun v => decide (fresh (pcs ls ms) (pOf H1 v))) rfl (by omega) hD (fun _ s3 => s3.seq zq) (fun _ => rfl) (fun _ _ _ _ y => y) (fun x H3 hx s3 R r => ?_) (fun x H3 R r => ⟨_, rfl, r⟩) fun H3 s3 e3 => ?_
  · obtain ⟨b, rfl, hb⟩ := hz1 x hx
    obtain ⟨g1, g2⟩ := hlt _ (hz3 _ hx)
    have s4 := s2.trans s3
    have hb4 : SqT K H3 b (pairV (pOf H1 (.ref b))) := .inl (.inl (s4 _ _ hb))
    have hc4 : H3 c = some (.lst ((pcs ls ms).map sV)) := s4 _ _ (s1 _ _ hc)
    have hcq : SqL K H3 c ((pcs ls ms).map sV) := .inl (.inl hc4)
    have p1 := piece_short ls l10 (pOf H1 (.ref b)).1
    have p2 := piece_short ls l10 (pOf H1 (.ref b)).2
    refine ⟨_, rfl, _, rfl, b, _, 0, _, rfl, rfl, hb4, at0, c, _, _, _, rfl, rfl, hcq, pcs_atI g1, _, rfl, _, rfl, b, _, 1, _, rfl, rfl, hb4, at1, c, _, _, _, rfl, rfl, hcq, pcs_atI g2, _, _, rfl, rfl, by rw [sT_len, sT_len]; exact line_small (by omega), ?_⟩
    refine ⟨_, rfl, c, _, rfl, .inl hcq, rfl, flat_sVs _, _, rfl, ?_⟩
    have e : (!inV (V.str (sT (piece (pcs ls ms) (pOf H1 (.ref b)).1) ++ sT (piece (pcs ls ms) (pOf H1 (.ref b)).2))) ((pcs ls ms).map sV)) = decide (fresh (pcs ls ms) (pOf H1 (.ref b))) := by
      rw [sT_app]
      show (!inV (sV (joined (pcs ls ms) (pOf H1 (.ref b)))) _) = _
      rw [inV_sV]
      exact not_in_fresh _ _
    show R (!inV _ _) H3
    rw [e]
    exact r
  · -- found = None, the loop
    generalize hfs : zs.filter (fun v => decide (fresh (pcs ls ms) (pOf H1 v))) = fs at e3
    have hf1 : ∀ z ∈ fs, z ∈ zs ∧ fresh (pcs ls ms) (pOf H1 z) := fun z hz => by
      rw [← hfs] at hz
      obtain ⟨h1, h2⟩ := List.mem_filter.mp hz
      exact ⟨h1, of_decide_eq_true h2⟩
    have hsrt : fs.Pairwise fun x y => pairLe (pOf H1 x) (pOf H1 y) := by
      have h1 : zs.Pairwise fun x y => pairLe (pOf H1 x) (pOf H1 y) := hS.imp fun h => lex_le h
      rw [← hfs]
      exact h1.sublist List.filter_sublist
    have s4 := s2.trans s3
    have ed3 := s4 _ _ ed
    have hq3 : SqL K H3 D fs := .inl (.inl e3)
    have dget : ∀ p ∈ allAdj rows, ∀ b, H1 b = some (.tup (pairV p)) → DGet H3 d (.ref b) (some (nV (cnt rows p))) := fun p hp b hb => by
      have g := DGet.t (k := kk p) ed3 (s4 _ _ hb)
      rw [hC.val, if_pos hp] at g
      exact g
    refine ⟨_, rfl, D, rfl, ⟨_, hq3⟩, ?_⟩
    refine for_list (xs := fs) (fun i σ H4 => ∃ y5 fv ob, σ = [some (.ref a), some (.ref c), some (.ref d), some (.ref D), some fv, y5] ∧ H4 = H3 ∧ Bst (cnt rows) ((fs.take i).map (pOf H1)) ob ∧ (match ob with | none => fv = .non | some p => p ∈ allAdj rows ∧ ∃ b, fv = .ref b ∧ H1 b = some (.tup (pairV p))))
      ⟨_, _, none, rfl, rfl, fun q hq => by simp at hq, rfl⟩ (fun i σ H4 _ ⟨_, _, _, _, e, _⟩ => e ▸ hq3) (fun i x σ H4 hx ⟨y5, fv, ob, es, e4, hB4, hfv⟩ => ?_) fun σ H4 ⟨y5, fv, ob, es, e4, hB4, hfv⟩ => ?_
    · subst es e4
      have hxm := List.mem_of_getElem? hx
      obtain ⟨hxz, hxf⟩ := hf1 x hxm
      obtain ⟨b, rfl, hb⟩ := hz1 x hxz
      have hp := hz3 _ hxz
      have et : (fs.take (i + 1)).map (pOf H1) = (fs.take i).map (pOf H1) ++ [pOf H1 (.ref b)] := by
        rw [List.take_add_one, hx, List.map_append]
        rfl
      refine ⟨_, rfl, _, rfl, d, _, rfl, dget _ hp b hb, _, 2, rfl, rfl, _, rfl, ite2 (fun h2 => ?_) (fun h2 => ?_)⟩
      · have h2' : 2 ≤ cnt rows (pOf H1 (.ref b)) := by
          have := of_decide_eq_true h2
          omega
        cases ob with
        | none =>
          obtain rfl := hfv
          refine ⟨_, rfl, rfl, true, rfl, iteT (iteT ⟨_, rfl, _, _, some (pOf H1 (.ref b)), rfl, rfl, ?_, hp, b, rfl, hb⟩)⟩
          rw [et]
          exact hB4.first h2'
        | some p =>
          obtain ⟨hpm, b2, rfl, hb2⟩ := hfv
          refine ⟨_, rfl, rfl, false, rfl, iteF ?_⟩
          refine ⟨_, rfl, _, rfl, d, _, rfl, dget _ hp b hb, _, rfl, _, rfl, d, _, rfl, dget _ hpm b2 hb2, _, _, rfl, rfl, _, rfl, ?_⟩
          by_cases hm : cnt rows p < cnt rows (pOf H1 (.ref b))
          · refine iteD (by omega) ⟨_, rfl, _, _, some (pOf H1 (.ref b)), rfl, rfl, ?_, hp, b, rfl, hb⟩
            rw [et]
            exact hB4.more hm
          · refine iteN (by omega) ⟨_, _, some p, rfl, rfl, ?_, hpm, b2, rfl, hb2⟩
            rw [et]
            refine hB4.stay hm ?_
            obtain ⟨y, hy, ey⟩ := List.mem_map.mp hB4.1
            have hpw : (fs.take i ++ [V.ref b]).Pairwise fun x y => pairLe (pOf H1 x) (pOf H1 y) := by
              have e : fs.take i ++ [V.ref b] = fs.take (i + 1) := by
                rw [List.take_add_one, hx]
                rfl
              rw [e]
              exact hsrt.sublist (List.take_sublist _ _)
            have := (List.pairwise_append.mp hpw).2.2 y hy _ (List.mem_singleton.mpr rfl)
            rwa [ey] at this
      · have h2' : cnt rows (pOf H1 (.ref b)) < 2 := by
          have : ¬ ((2 : Int) ≤ ((cnt rows (pOf H1 (.ref b)) : Nat) : Int)) := fun z => h2 (decide_eq_true z)
          omega
        refine iteF ⟨_, fv, ob, rfl, rfl, ?_, hfv⟩
        rw [et]
        cases ob with
        | none => exact hB4.none_step h2'
        | some p =>
          refine ⟨List.mem_append_left _ hB4.1, hB4.2.1, fun q hq => ?_⟩
          rcases List.mem_append.mp hq with e | e
          · exact hB4.2.2 q e
          · rw [List.mem_singleton.mp e]
            have := hB4.2.1
            exact .inl (by omega)
    · subst es e4
      rw [List.take_length] at hB4
      have hbest : best rows (pcs ls ms) = ob := bestC_eq (hB4.best (fun p hp => by
        obtain ⟨z, hz, rfl⟩ := List.mem_map.mp hp
        exact (hf1 z hz).2) fun q hq hn => by
          refine List.count_eq_zero.mpr fun hqm => hn ?_
          have h1 := hz2.mem_iff.mpr ((hmem q).mpr hqm)
          obtain ⟨z, hz, rfl⟩ := List.mem_map.mp h1
          refine List.mem_map_of_mem ?_
          rw [← hfs]
          exact List.mem_filter.mpr ⟨hz, decide_eq_true hq⟩)
      have s5 := s1.trans s4
      cases ob with
      | none =>
        obtain rfl := hfv
        exact ⟨_, rfl, q0 hbest _ s5⟩
      | some p =>
        obtain ⟨_, b2, rfl, hb2⟩ := hfv
        exact ⟨_, rfl, q1 p hbest _ b2 s5 (s4 _ _ hb2)⟩
end
end TK
end
section
set_option Elab.async false
set_option linter.all false
set_option maxRecDepth 100000
set_option maxHeartbeats 8000000
/-! The walk, eighth part: training. -/
namespace TK
open PySem PySem.Spec L2
open PyProof.Rows TL
/-- a list of new rows, all else as it was -/
theorem lc_rows {K : PySem.W.Frag} {J : It} {n : Nat} {G : Hp → Prop} {Y : Nat → Hp → V → Hp → Prop} (w : Walk J n G Y) {k : Nat} {te : TE} {vs : List Nat} {σ : L2.St} {H1 : Hp} {D : Addr} {Qd : Hp → Prop} (rows : List (List Nat)) (hn : rows.length = n) (hz : n ≤ 1000000) (hD : H1 D = none)
    (hG : ∀ H, Same H1 H → G H) (hw : ∀ x, wipe ((wipe σ vs).set k (some x)) vs = wipe σ vs)
    (hs : ∀ i x H H' row, rows[i]? = some row → Same H1 H → Y i H x H' → ∀ Q : VK, (∀ H4 o, Same H H4 → H o = none → H4 o = some (.lst (rowV row)) → Q (.ref o) H4) → te ((wipe σ vs).set k (some x)) H' Q)
    (hd : ∀ H rs, Same H1 H → H D = some (.lst (rs.map V.ref)) → RowsAt K H rs rows → Qd H) :
    ∃ W : Nat → Nat → Hp → Prop, (∃ m, W 0 m (upd H1 D (.lst []))) ∧ ∀ i m H, W i m H →
      (J.stop i H ∧ Qd H) ∨ (J.go i H ∧ ∃ Nx : Hp → Prop, (∀ H', Nx H' → ∃ m', m' < m ∧ W (i + 1) m' H') ∧ ∀ x H', J.yld i H x H' → gName k x (wipe σ vs) H' fun σ2 H2 => wipe σ2 vs = wipe σ vs ∧ tYes σ2 H2 fun b H3 =>
        if b = true then te σ2 H3 fun y H4 => ∃ acc, H4 D = some (.lst acc) ∧ acc.length < sizeLine ∧ Nx (upd H4 D (.lst (acc ++ [y]))) else Nx H3) := by
  subst hn
  refine lc_it w (fun i H => Same H1 H ∧ ∃ rs : List Addr, H D = some (.lst (rs.map V.ref)) ∧ rs.length = i ∧ ∀ (j : Nat) r row, rs[j]? = some r → rows[j]? = some row → r ≠ D ∧ H r = some (.lst (rowV row))) ⟨Same.new hD, [], upd_same, rfl, fun j r row h => by simp at h⟩ (fun i H _ h => hG H h.1) (fun i x H H' hi h y => ?_) fun H h => ?_
  · obtain ⟨h1, rs, h2, h3, h4⟩ := h
    have hy : rows[i]? = some rows[i] := List.getElem?_eq_getElem hi
    refine ⟨hw x, ?_⟩
    unfold tYes
    simp only [if_true]
    refine hs i x H H' _ hy h1 y _ fun H4 o s4 no eo => ⟨rs.map V.ref, s4 _ _ h2, ?_, fun b z e => ?_, rs ++ [o], ?_, ?_, fun j r row g1 g2 => ?_⟩
    · rw [List.length_map]
      exact line_lt (by omega)
    · rw [upd_ne (ne_of_none e hD)]
      exact s4 _ _ (h1 _ _ e)
    · rw [upd_same, List.map_append]
      rfl
    · rw [List.length_append, h3]
      rfl
    · by_cases hj : j < rs.length
      · rw [List.getElem?_append_left hj] at g1
        obtain ⟨g3, g4⟩ := h4 j r row g1 g2
        exact ⟨g3, by rw [upd_ne g3]; exact s4 _ _ g4⟩
      · have hj2 : j = rs.length := by
          have := (List.getElem?_eq_some_iff.mp g1).1
          rw [List.length_append, List.length_singleton] at this
          omega
        subst hj2
        rw [List.getElem?_append_right (Nat.le_refl _), Nat.sub_self] at g1
        have e1 : o = r := Option.some.inj g1
        subst e1
        rw [h3, hy] at g2
        have e2 := Option.some.inj g2
        subst e2
        have ne : o ≠ D := fun z => by
          rw [z, h2] at no
          cases no
        exact ⟨ne, by rw [upd_ne ne]; exact eo⟩
  · obtain ⟨h1, rs, h2, h3, h4⟩ := h
    exact hd H rs h1 h2 ⟨h3, fun j r row g1 g2 => .inl (.inl (h4 j r row g1 g2).2)⟩
structure RB (rows : List (List Nat)) : Prop where
  few : rows.length ≤ 10
  short : ∀ r ∈ rows, r.length ≤ 1000
theorem RB.merge {rows : List (List Nat)} (h : RB rows) (p : P2) (t : Nat) : RB (rows.map (merge p t)) := ⟨by rw [List.length_map]; exact h.few, fun r hr => by
  obtain ⟨r0, h0, rfl⟩ := List.mem_map.mp hr
  exact Nat.le_trans (merge_len p t r0) (h.short r0 h0)⟩
theorem RB.adj {rows : List (List Nat)} (h : RB rows) : (allAdj rows).length ≤ 100000 := by
  have key : ∀ l : List (List Nat), (∀ r ∈ l, r.length ≤ 1000) → (allAdj l).length ≤ l.length * 1000 := by
    intro l
    induction l with
    | nil => intro _; simp [allAdj]
    | cons r l ih =>
      intro hl
      have h1 := hl r List.mem_cons_self
      have h2 := ih fun x hx => hl x (List.mem_cons_of_mem _ hx)
      have h3 := adj_len r
      unfold allAdj at h2 ⊢
      rw [List.flatMap_cons, List.length_append, List.length_cons]
      omega
  have := key rows h.short
  have := h.few
  omega
theorem part_le {ts : List (List Nat)} {t : List Nat} (h : t ∈ ts) : t.length ≤ ts.flatten.length := by
  induction ts with
  | nil => cases h
  | cons a ts ih =>
    rw [List.flatten_cons, List.length_append]
    rcases List.mem_cons.mp h with e | e
    · rw [e]; omega
    · have := ih e
      omega
theorem Voc.empty {K : PySem.W.Frag} {H : Hp} {a m : Addr} {ls : List Nat} (h1 : H a = some (.tup [.str "vocabulary", sV ls, .ref m])) (h2 : H m = some (.tup [])) : Voc K H a ls [] := ⟨m, [], .inl (.inl h1), .inl (.inl h2), rfl, fun i b p h => by simp at h⟩
theorem Prs.snoc {K : PySem.W.Frag} {H : Hp} {bs : List Addr} {ms : List P2} {b : Addr} {p : P2} (h : Prs K H bs ms) (hb : SqT K H b (pairV p)) : Prs K H (bs ++ [b]) (ms ++ [p]) := by
  refine ⟨by rw [List.length_append, List.length_append, h.1]; rfl, fun i c m h1 h2 => ?_⟩
  by_cases hi : i < bs.length
  · rw [List.getElem?_append_left hi] at h1
    rw [List.getElem?_append_left (by rw [← h.1]; exact hi)] at h2
    exact h.2 i c m h1 h2
  · have hi2 : i = bs.length := by
      have := (List.getElem?_eq_some_iff.mp h1).1
      rw [List.length_append, List.length_singleton] at this
      omega
    subst hi2
    rw [List.getElem?_append_right (Nat.le_refl _), Nat.sub_self] at h1
    rw [List.getElem?_append_right (by rw [h.1]; exact Nat.le_refl _), h.1, Nat.sub_self] at h2
    have e1 : b = c := Option.some.inj h1
    have e2 : p = m := Option.some.inj h2
    rw [← e1, ← e2]
    exact hb
section
variable {P : Program} {w : World} {K : PySem.W.Frag} {mg : Str → Option Value} {base : Heap}
/-! ### trained_raw -/
abbrev st_trained_raw : Stmt := topS 28
theorem sc_trained_raw : FnScope ["texts", "n", "letters", "found", "rows", "pair", "text", "row"] ["texts", "n"] (defScope st_trained_raw) := ⟨rfl, rfl, rfl, by decide +kernel, rfl, by decide +kernel, by decide +kernel⟩
/-- texts that can be trained on, their letters -/
structure Txts (ts : List (List Nat)) (ls : List Nat) : Prop where
  few : ts.length ≤ 10
  short : ts.flatten.length ≤ 1000
  lets : LetsOf ts.flatten ls
  ls : Lets ls
def sp_trained_raw (K : PySem.W.Frag) : Sp := fun vs H Q _ => ∃ (t : Addr) (ts : List (List Nat)) (ls : List Nat) (n : Nat), vs = [.ref t, nV n] ∧ SqT K H t (ts.map sV) ∧ Txts ts ls ∧ ∀ H' v, Same H H' → Voc K H' v ls (trained ls ts n) → Q (.ref v) H'
theorem k_trained_raw {f : Addr} {fd : FuncData} (G : Names mg) (F : At K mg "trained_raw" st_trained_raw f fd) (b : Binds K fd ["texts", "n"] []) (k1 : Keeps P w K mg base 2 "tokens_raw" ["vocabulary", "text"] (sp_tokens_raw K))
    (k2 : Keeps P w K mg base 2 "best_pair" ["rows", "pieces"] (sp_best_pair K)) (k3 : Keeps P w K mg base 1 "pieces_of" ["vocabulary"] (sp_pieces_of K)) (k4 : Keeps P w K mg base 1 "merged" ["tokens", "merge", "token"] (sp_merged K))
    (k5 : Keeps P w K mg base 1 "size_raw" ["vocabulary"] (sp_size_raw K)) : Keeps P w K mg base 3 "trained_raw" ["texts", "n"] (sp_trained_raw K) := by
  refine F.keeps sc_trained_raw b (fun vs H Q E h => ?_) (fun cdv A outer s H vs Q E hr h => ?_)
  · obtain ⟨t, ts, ls, n, rfl, _⟩ := h
    rfl
  obtain ⟨t, ts, ls, n, rfl, hT, X, q⟩ := h
  have nd := sc_trained_raw.nd
  obtain ⟨tV, gV⟩ := G.voc
  obtain ⟨tM, gM⟩ := G.merges
  refine ⟨_, pss_cons (ps_set (i := 2) nd rfl (.inl rfl) (pe_join pe_str (pe_callB (cr_sortedS2 rfl) (by rfl) (G.blt _ (by decide)) (by decide +kernel) (pa_cons (pe_callTy (cr_setS rfl) (by rfl) (G.blt _ (by decide)) boot_set (pa_cons (pe_join pe_str (pv 0)) pa_nil)) pa_nil))))
    (pss_cons (ps_set (i := 3) nd rfl (.inr rfl) (pe_tup (pa_cons (pe_glob (v := .str "vocabulary") (by rfl) gV ⟨_, rfl⟩) (pa_cons (pv 2) (pa_cons (pe_tup pa_nil) pa_nil)))))
    (pss_cons (ps_setLc (i := 4) (own := [("text", 6)]) (g := gName 6) (tt := tYes) rfl nd rfl rfl (sw_true rfl rfl rfl (by decide +kernel)) (pi_tup (pv 0)) (blkOk_by (N := ["texts", "n", "letters", "found", "rows", "pair", "text", "row"]) (sc := defScope st_trained_raw) (by decide +kernel))
        (fun _ _ _ _ _ => pg_name (i := 6) nd rfl (.inl rfl)) (fun _ _ _ _ _ => pts_nil) (fun _ _ _ _ _ => pe_def k1 hr (by rfl) (pa_cons (pv 3) (pa_cons (pv 6) pa_nil))))
    (pss_cons (ps_while PassesOwn.never (pt_cmpR op_lt (pe_callB call_len_seq (by rfl) (G.blt _ (by decide)) PySem.boot_len (pa_cons (pe_ix ix_tup (pv 3) pe_int (fun _ _ => rfl)) pa_nil)) (pe_callB (call_min2 rfl) (by rfl) (G.blt _ (by decide)) (by decide +kernel) (pa_cons (pv 1) (pa_cons (pe_glob (v := .int 10) (by rfl) gM ⟨_, rfl⟩) pa_nil))) (nomark _))
      (pss_cons (ps_set (i := 5) nd rfl (.inr rfl) (pe_def k2 hr (by rfl) (pa_cons (pv 4) (pa_cons (pe_def k3 (hr.mono (by decide)) (by rfl) (pa_cons (pv 3) pa_nil)) pa_nil))))
      (pss_cons (ps_if (pt_cmpR op_isN (pv 5) pe_non (nomark _)) (pss_one (ps_ret (pv 3))) pss_nil)
      (pss_cons (ps_setLc (i := 4) (own := [("row", 7)]) (g := gName 7) (tt := tYes) rfl nd rfl rfl (sw_true rfl rfl rfl (by decide +kernel)) (pi_list (pv 4)) (blkOk_by (N := ["texts", "n", "letters", "found", "rows", "pair", "text", "row"]) (sc := defScope st_trained_raw) (by decide +kernel))
        (fun _ _ _ _ _ => pg_name (i := 7) nd rfl (.inl rfl)) (fun _ _ _ _ _ => pts_nil) (fun _ _ _ _ _ => pe_def k4 (hr.mono (by decide)) (by rfl) (pa_cons (pv 7) (pa_cons (pv 5) (pa_cons (pe_def k5 (hr.mono (by decide)) (by rfl) (pa_cons (pv 3) pa_nil)) pa_nil)))))
      (pss_one (ps_set (i := 3) nd rfl (.inr rfl) (pe_tup (pa_cons (pe_glob (v := .str "vocabulary") (by rfl) gV ⟨_, rfl⟩) (pa_cons (pv 2) (pa_cons (pe_op op_catA (pe_ix ix_tup (pv 3) pe_int (fun _ _ => rfl)) (pe_tup (pa_cons (pv 5) pa_nil))) pa_nil))))))))))
    (pss_one (ps_ret (pv 3)))))), ?_⟩
  have hz := X.short
  have hL := X.lets
  have L := X.ls
  have l6 := L.most
  refine ⟨⟨_, rfl⟩, ⟨_, rfl⟩, _, rfl, _, t, ts.map sT, rfl, rfl, .inr (by rw [map_sV]; exact hT), flat_join hz, ?_⟩
  rw [join_texts]
  refine .inl ⟨sT ts.flatten, rfl, by rw [sT_len]; omega, fun p ks np nk hk => ?_⟩
  have hk2 : ∀ y, y ∈ ks ↔ ∃ c ∈ ts.flatten, y = one c := fun y => by
    rw [hk, sT_list]
    rfl
  have s2 := Same.new (o := SsO w p ks) np
  have hls : ∀ ys : List Str, ys.Perm ks → sortedS ys = true → ys = ls.map one := fun ys pk hs => by
    obtain ⟨l2, h1, h2⟩ := lets_sorted pk nk hk2 hs
    rw [h2, lets_one h1 hL]
  have hlen : ks.length = ls.length := by
    have : ks.Perm (ls.map one) := (List.perm_ext_iff_of_nodup nk (by
      unfold List.Nodup
      rw [List.pairwise_map]
      exact L.nd.imp fun {a b} hab e => hab (one_inj e))).mpr fun y => by
        rw [hk2, List.mem_map]
        constructor
        · rintro ⟨c, h1, h2⟩
          exact ⟨c, (hL.2 c).mpr h1, h2.symm⟩
        · rintro ⟨c, h1, h2⟩
          exact ⟨c, (hL.2 c).mp h1, h2.symm⟩
    rw [this.length_eq, List.length_map]
  refine ⟨p, ks, rfl, upd_same, by omega, fun ys o pk hs no => ?_⟩
  obtain rfl := hls ys pk hs
  have s3 := s2.trans (Same.new (o := .lst ((ls.map one).map V.str)) no)
  have hj : ((ls.map one).map (·.length)).sum + (ls.map one).length * (Str.ofString "").length ≤ 16777216 := by
    have e : (ls.map one).map (·.length) = List.replicate ls.length 1 := by
      rw [List.map_map]
      exact List.eq_replicate_iff.mpr ⟨by simp, fun x hx => by
        obtain ⟨c, _, rfl⟩ := List.mem_map.mp hx
        rfl⟩
    rw [e, List.sum_replicate_nat, show (Str.ofString "").length = 0 by decide +kernel]
    omega
  refine ⟨_, o, ls.map one, rfl, rfl, .inl (.inl (.inl upd_same)), hj, ?_⟩
  rw [join_ones]
  refine ⟨_, rfl, Nat.zero_le _, fun e0 ne0 => ⟨by show 3 ≤ sizeLine; decide, fun v0 nv0 => ?_⟩⟩
  have s4 := s3.trans (Same.new (o := .tup []) ne0)
  have s5 := s4.trans (Same.new (o := .tup [.str "vocabulary", sV ls, .ref e0]) nv0)
  have hmem : ∀ x ∈ ts, ∀ c ∈ x, c ∈ ls := fun x hx c hc => (hL.2 c).mpr (List.mem_flatten.mpr ⟨x, hx, hc⟩)
  have voc5 : Voc K _ v0 ls [] := Voc.empty (H := upd (upd (upd (upd H p (SsO w p ks)) o (.lst ((ls.map one).map V.str))) e0 (.tup [])) v0 (.tup [.str "vocabulary", sV ls, .ref e0])) (m := e0) upd_same (by rw [upd_ne (ne_of_none upd_same nv0)]; exact upd_same)
  have hT5 := Same.tup s5 hT
  refine ⟨_, rfl, t, rfl, ⟨_, hT5⟩, fun D hD => ?_⟩
  refine lc_rows (K := K) (walk_tup (xs := ts.map sV)) (rows0 ls ts) (by unfold rows0; rw [List.length_map, List.length_map]) (by rw [List.length_map]; have := X.few; omega) hD (fun _ s6 => Same.tup s6 hT5) (fun _ => rfl) (fun i x H6 H7 row hrow s6 Y R k => ?_) fun H6 rs s6 e6 hR => ?_
  · obtain ⟨rfl, hx⟩ := Y
    unfold rows0 at hrow
    rw [List.getElem?_map] at hx hrow
    cases hc : ts[i]? with
    | none => rw [hc] at hx; cases hx
    | some z =>
      rw [hc] at hx hrow
      have ex : sV z = x := Option.some.inj hx
      have er : row0 ls z = row := Option.some.inj hrow
      subst ex er
      have hzm := List.mem_of_getElem? hc
      have := part_le hzm
      exact ⟨_, rfl, _, rfl, v0, ls, [], z, rfl, voc5.same s6, l6, by omega, hmem z hzm, fun H8 o8 s8 no8 eo8 => k H8 o8 s8 no8 eo8⟩
  have s7 := s5.trans s6
  refine ⟨fun m σ H3 => ∃ ms rows v rs R y5 y6 y7, σ = [some (.ref t), some (nV n), some (sV ls), some (.ref v), some (.ref R), y5, y6, y7] ∧ Same H H3 ∧ Voc K H3 v ls ms ∧ SqL K H3 R (rs.map V.ref) ∧ RowsAt K H3 rs rows ∧ StOk ls ms rows ∧ RB rows ∧
      ms.length ≤ min n 10 ∧ trained ls ts n = train ls (min n 10 - ms.length) ms rows ∧ m = min n 10 - ms.length,
    ⟨min n 10, [], rows0 ls ts, v0, rs, D, _, _, _, rfl, s7, voc5.same s6, .inl (.inl e6), hR, StOk.start L.nd hmem, ?_, Nat.zero_le _, rfl, rfl⟩, ?_⟩
  · refine ⟨by unfold rows0; rw [List.length_map]; exact X.few, fun r hr2 => ?_⟩
    obtain ⟨z, hz2, rfl⟩ := List.mem_map.mp hr2
    have := part_le hz2
    unfold row0
    rw [List.length_map]
    omega
  rintro m σ H3 ⟨ms, rows, v, rs, R, y5, y6, y7, rfl, s8, hv, hRl, hRA, hS, hB, hle, htr, rfl⟩
  obtain ⟨mm, bs, hV, hM, hP⟩ := id hv
  have hl10 : ms.length ≤ 10 := by omega
  have hN : (if (10 : Int) < (n : Int) then (10 : Int) else (n : Int)) = ((min n 10 : Nat) : Int) := by
    split <;> omega
  have hbl : (bs.map V.ref).length = ms.length := by rw [List.length_map, hP.1]
  refine ⟨_, rfl, v, _, 2, _, rfl, rfl, hV, at2, mm, _, rfl, .inr hM, _, rfl, (n : Int), 10, rfl, _, _, rfl, rfl, _, rfl, ite2 (fun e => ?_) (fun e => ?_)⟩
  · have hlt : ms.length < min n 10 := by
      have := of_decide_eq_true e
      rw [hN, hbl] at this
      omega
    refine ⟨fun σ' H' => ∃ ms2 rows2 v2 rs2 R2 y5 y6 y7, σ' = [some (.ref t), some (nV n), some (sV ls), some (.ref v2), some (.ref R2), y5, y6, y7] ∧ Same H H' ∧ Voc K H' v2 ls ms2 ∧ SqL K H' R2 (rs2.map V.ref) ∧ RowsAt K H' rs2 rows2 ∧ StOk ls ms2 rows2 ∧ RB rows2 ∧
        ms2.length ≤ min n 10 ∧ trained ls ts n = train ls (min n 10 - ms2.length) ms2 rows2 ∧ ms2.length = ms.length + 1,
      fun σ' H' ⟨ms2, rows2, v2, rs2, R2, z5, z6, z7, a1, a2, a3, a4, a5, a6, a7, a8, a9, a10⟩ => ⟨min n 10 - ms2.length, by omega, ms2, rows2, v2, rs2, R2, z5, z6, z7, a1, a2, a3, a4, a5, a6, a7, a8, a9, rfl⟩, ?_⟩
    refine ⟨_, rfl, _, rfl, v, ls, ms, rfl, hv, l6, hl10, hS.okm, fun H9 c s9 nc ec => ⟨R, c, rs, rows, ls, ms, rfl, s9.seq hRl, hRA.same s9, hB.adj, ec, hl10, fun p hp => ?_, fun hb H10 s10 => ?_, fun p hb H10 b s10 eb => ?_⟩⟩
    · obtain ⟨r, hr2, h1, h2⟩ := mem_allAdj hp
      exact ⟨(hS.okr r hr2 _ h1).2, (hS.okr r hr2 _ h2).2⟩
    · refine ⟨_, rfl, rfl, true, rfl, iteT ⟨_, rfl, q H10 v (s8.trans (s9.trans s10)) ?_⟩⟩
      rw [htr, train_none _ hb]
      exact hv.same (s9.trans s10)
    · refine ⟨_, rfl, rfl, false, rfl, iteF ?_⟩
      have s11 := s9.trans s10
      have hRl2 := s11.seq hRl
      refine ⟨_, rfl, R, rfl, ⟨_, hRl2⟩, fun D2 hD2 => ?_⟩
      have hb0 : SqT K H10 b (pairV p) := .inl (.inl eb)
      refine lc_rows (K := K) (walk_list (xs := rs.map V.ref)) (rows.map (merge p (1 + ls.length + ms.length))) (by rw [List.length_map, List.length_map, hRA.1]) (by rw [List.length_map, hRA.1]; have := hB.few; omega) hD2 (fun _ s12 => s12.seq hRl2) (fun _ => rfl) (fun i x H12 H13 row hrow s12 Y R3 k => ?_) fun H12 rs2 s12 e12 hR12 => ?_
      · obtain ⟨rfl, hx⟩ := Y
        obtain ⟨r, hr2, rfl⟩ := ref_at hx
        rw [List.getElem?_map] at hrow
        cases hc : rows[i]? with
        | none => rw [hc] at hrow; cases hrow
        | some row0 =>
          rw [hc] at hrow
          have er : merge p (1 + ls.length + ms.length) row0 = row := Option.some.inj hrow
          subst er
          have s13 := s11.trans s12
          exact ⟨_, rfl, _, rfl, _, rfl, v, ls, ms, rfl, hv.same s13, l6, hl10, r, b, row0, p, _, rfl, s13.seq (hRA.2 i r row0 hr2 hc), Same.tup s12 hb0, hB.short _ (List.mem_of_getElem? hc), fun H14 o14 s14 no14 eo14 => k H14 o14 s14 no14 eo14⟩
      · have s13 := s11.trans s12
        have hb12 := Same.tup s12 hb0
        have fin : ∀ H15 m2, Same H12 H15 → SqT K H15 m2 ((bs ++ [b]).map V.ref) → ∀ v2, H15 v2 = none → ∃ ms2 rows2 v3 rs3 R3 z5 z6 z7, [some (.ref t), some (nV n), some (sV ls), some (.ref v2), some (.ref D2), some (.ref b), y6, y7] = [some (.ref t), some (nV n), some (sV ls), some (.ref v3), some (.ref R3), z5, z6, z7] ∧ Same H (upd H15 v2 (.tup [.str "vocabulary", sV ls, .ref m2])) ∧
            Voc K (upd H15 v2 (.tup [.str "vocabulary", sV ls, .ref m2])) v3 ls ms2 ∧ SqL K (upd H15 v2 (.tup [.str "vocabulary", sV ls, .ref m2])) R3 (rs3.map V.ref) ∧ RowsAt K (upd H15 v2 (.tup [.str "vocabulary", sV ls, .ref m2])) rs3 rows2 ∧ StOk ls ms2 rows2 ∧ RB rows2 ∧
            ms2.length ≤ min n 10 ∧ trained ls ts n = train ls (min n 10 - ms2.length) ms2 rows2 ∧ ms2.length = ms.length + 1 := fun H15 m2 s15 hm2 v2 nv2 => by
          have s16 := s15.trans (Same.new (o := .tup [.str "vocabulary", sV ls, .ref m2]) nv2)
          have e1 : (ms ++ [p]).length = ms.length + 1 := by simp
          refine ⟨ms ++ [p], rows.map (merge p (1 + ls.length + ms.length)), v2, rs2, D2, _, _, _, rfl, s8.trans (s13.trans s16), ⟨m2, bs ++ [b], .inl (.inl upd_same), Same.tup (Same.new nv2) hm2, Prs.snoc (hP.same (s13.trans s16)) (Same.tup s16 hb12)⟩, s16.seq (.inl (.inl e12)), hR12.same s16, hS.next hb, hB.merge _ _, by omega, ?_, e1⟩
          rw [htr, show min n 10 - ms.length = (min n 10 - (ms ++ [p]).length) + 1 by omega, train_some _ hb]
        refine ⟨_, rfl, _, rfl, v, _, 2, _, rfl, rfl, Same.tup s13 hV, at2, _, rfl, by show 1 ≤ sizeLine; decide, fun u nu => ?_⟩
        have s14 := Same.new (o := .tup [.ref b]) nu
        refine ⟨mm, u, bs.map V.ref, [.ref b], rfl, rfl, Same.tup (s13.trans s14) hM, .inl (.inl upd_same), ?_, fun h0 => ?_, fun _ h1 => (nomatch h1), fun h0 h1 p2 np2 => ?_⟩
        · rw [hbl]
          show ms.length + 1 ≤ sizeLine
          exact line_small (by omega)
        · refine ⟨by show 3 ≤ sizeLine; decide, fun v2 nv2 => fin _ u s14 ?_ v2 nv2⟩
          rw [List.map_append, h0]
          exact .inl (.inl upd_same)
        · refine ⟨by show 3 ≤ sizeLine; decide, fun v2 nv2 => fin _ p2 (s14.trans (Same.new np2)) ?_ v2 nv2⟩
          rw [List.map_append]
          exact .inl (.inl upd_same)
  · have hge : ms.length = min n 10 := by
      have h1 : ¬ (((bs.map V.ref).length : Int) < if (10 : Int) < (n : Int) then (10 : Int) else (n : Int)) := fun z => e (decide_eq_true z)
      rw [hN, hbl] at h1
      omega
    rw [hge, Nat.sub_self, train_zero] at htr
    refine ⟨_, rfl, q H3 v s8 ?_⟩
    rw [htr]
    exact hv
end
end TK
end
section
set_option Elab.async false
set_option linter.all false
set_option maxRecDepth 100000
set_option maxHeartbeats 8000000
/-! The walk, ninth part: the defs of the face. -/
namespace TK
open PySem PySem.Spec L2
open PyProof.Rows TL
section
variable {P : Program} {w : World} {K : PySem.W.Frag} {mg : Str → Option Value} {base : Heap}
/-! ### is_vocabulary -/
abbrev st_is_vocabulary : Stmt := topS 30
theorem sc_is_vocabulary : FnScope ["thing"] ["thing"] (defScope st_is_vocabulary) := ⟨rfl, rfl, rfl, by decide +kernel, rfl, by decide +kernel, by decide +kernel⟩
theorem k_is_vocabulary {f : Addr} {fd : FuncData} (F : At K mg "is_vocabulary" st_is_vocabulary f fd) (b : Binds K fd ["thing"] []) (k1 : Keeps P w K mg base 4 "is_vocabulary_value" ["thing"] (sp_is_vocabulary_value K)) :
    Keeps P w K mg base 5 "is_vocabulary" ["thing"] (sp_is_vocabulary_value K) := by
  refine F.keeps sc_is_vocabulary b (fun vs H Q E h => ?_) (fun cdv A outer s H vs Q E hr h => ?_)
  · obtain ⟨a, ls, ms, rfl, _⟩ := h
    rfl
  obtain ⟨a, ls, ms, rfl, hv, g, q⟩ := h
  exact ⟨_, pss_one (ps_ret (pe_def k1 hr (by rfl) (pa_cons (pv 0) pa_nil))), _, rfl, a, ls, ms, rfl, hv, g, q⟩
/-! ### size -/
abbrev st_size : Stmt := topS 31
theorem sc_size : FnScope ["vocabulary"] ["vocabulary"] (defScope st_size) := ⟨rfl, rfl, rfl, by decide +kernel, rfl, by decide +kernel, by decide +kernel⟩
def sp_size (K : PySem.W.Frag) : Sp := fun vs H Q _ => ∃ (a : Addr) (ls : List Nat) (ms : List P2), vs = [.ref a] ∧ Voc K H a ls ms ∧ Good ls ms ∧ ∀ H', Same H H' → Q (nV (1 + ls.length + ms.length)) H'
theorem k_size {f : Addr} {fd : FuncData} (F : At K mg "size" st_size f fd) (b : Binds K fd ["vocabulary"] []) (k1 : Keeps P w K mg base 5 "need_vocabulary" ["thing"] (sp_need_vocabulary K)) (k2 : Keeps P w K mg base 1 "size_raw" ["vocabulary"] (sp_size_raw K)) :
    Keeps P w K mg base 6 "size" ["vocabulary"] (sp_size K) := by
  refine F.keeps sc_size b (fun vs H Q E h => ?_) (fun cdv A outer s H vs Q E hr h => ?_)
  · obtain ⟨a, ls, ms, rfl, _⟩ := h
    rfl
  obtain ⟨a, ls, ms, rfl, hv, g, q⟩ := h
  exact ⟨_, pss_cons (ps_expr (pe_def k1 hr (by rfl) (pa_cons (pv 0) pa_nil))) (pss_one (ps_ret (pe_def k2 (hr.mono (by decide)) (by rfl) (pa_cons (pv 0) pa_nil)))),
    _, rfl, a, ls, ms, rfl, hv, g, fun H1 s1 => ⟨_, rfl, a, ls, ms, rfl, hv.same s1, g.lts.most, g.few, q _ s1⟩⟩
/-! ### need_text -/
abbrev st_need_text : Stmt := topS 32
theorem sc_need_text : FnScope ["vocabulary", "text"] ["vocabulary", "text"] (defScope st_need_text) := ⟨rfl, rfl, rfl, by decide +kernel, rfl, by decide +kernel, by decide +kernel⟩
def sp_need_text (K : PySem.W.Frag) : Sp := fun vs H Q _ => ∃ (a : Addr) (ls : List Nat) (ms : List P2) (x : List Nat), vs = [.ref a, sV x] ∧ Voc K H a ls ms ∧ Good ls ms ∧ x.length ≤ 1000 ∧ (∀ c ∈ x, c ∈ ls) ∧ ∀ H', Same H H' → Q .non H'
theorem k_need_text {f : Addr} {fd : FuncData} (F : At K mg "need_text" st_need_text f fd) (b : Binds K fd ["vocabulary", "text"] []) (k1 : Keeps P w K mg base 5 "need_vocabulary" ["thing"] (sp_need_vocabulary K)) (k2 : Keeps P w K mg base 1 "is_text" ["vocabulary", "thing"] (sp_is_text K)) :
    Keeps P w K mg base 6 "need_text" ["vocabulary", "text"] (sp_need_text K) := by
  refine F.keeps sc_need_text b (fun vs H Q E h => ?_) (fun cdv A outer s H vs Q E hr h => ?_)
  · obtain ⟨a, ls, ms, x, rfl, _⟩ := h
    rfl
  obtain ⟨a, ls, ms, x, rfl, hv, g, hl, hx, q⟩ := h
  exact ⟨_, pss_cons (ps_expr (pe_def k1 hr (by rfl) (pa_cons (pv 0) pa_nil))) (pss_one (ps_if (pt_not (pt_val (pe_def k2 (hr.mono (by decide)) (by rfl) (pa_cons (pv 0) (pa_cons (pv 1) pa_nil))))) (pss_one ps_never) pss_nil)),
    _, rfl, a, ls, ms, rfl, hv, g, fun H1 s1 => ⟨_, rfl, _, rfl, a, ls, ms, x, rfl, hv.same s1, hl, hx, fun H2 s2 => ⟨true, rfl, iteF (q _ (s1.trans s2))⟩⟩⟩
/-! ### to_tokens -/
abbrev st_to_tokens : Stmt := topS 33
theorem sc_to_tokens : FnScope ["vocabulary", "text"] ["vocabulary", "text"] (defScope st_to_tokens) := ⟨rfl, rfl, rfl, by decide +kernel, rfl, by decide +kernel, by decide +kernel⟩
def sp_to_tokens (K : PySem.W.Frag) : Sp := fun vs H Q _ => ∃ (a : Addr) (ls : List Nat) (ms : List P2) (x : List Nat), vs = [.ref a, sV x] ∧ Voc K H a ls ms ∧ Good ls ms ∧ x.length ≤ 1000 ∧ (∀ c ∈ x, c ∈ ls) ∧ ∀ H' t, Same H H' → SqT K H' t (rowV (tokens ls ms x)) → Q (.ref t) H'
theorem k_to_tokens {f : Addr} {fd : FuncData} (G : Names mg) (F : At K mg "to_tokens" st_to_tokens f fd) (b : Binds K fd ["vocabulary", "text"] []) (k1 : Keeps P w K mg base 6 "need_text" ["vocabulary", "text"] (sp_need_text K)) (k2 : Keeps P w K mg base 2 "tokens_raw" ["vocabulary", "text"] (sp_tokens_raw K)) :
    Keeps P w K mg base 7 "to_tokens" ["vocabulary", "text"] (sp_to_tokens K) := by
  refine F.keeps sc_to_tokens b (fun vs H Q E h => ?_) (fun cdv A outer s H vs Q E hr h => ?_)
  · obtain ⟨a, ls, ms, x, rfl, _⟩ := h
    rfl
  obtain ⟨a, ls, ms, x, rfl, hv, g, hl, hx, q⟩ := h
  refine ⟨_, pss_cons (ps_expr (pe_def k1 hr (by rfl) (pa_cons (pv 0) (pa_cons (pv 1) pa_nil)))) (pss_one (ps_ret (pe_callTy call_tuple_of (by rfl) (G.blt _ (by decide)) boot_tuple (pa_cons (pe_def k2 (hr.mono (by decide)) (by rfl) (pa_cons (pv 0) (pa_cons (pv 1) pa_nil))) pa_nil)))), ?_⟩
  refine ⟨_, rfl, _, rfl, a, ls, ms, x, rfl, hv, g, hl, hx, fun H1 s1 => ⟨_, rfl, _, rfl, a, ls, ms, x, rfl, hv.same s1, g.lts.most, hl, hx, fun H2 o s2 no eo => ?_⟩⟩
  exact ⟨o, _, rfl, .inl ⟨.inl (.inl eo), fun t nt => q _ t (s1.trans (s2.trans (Same.new nt))) (.inl (.inl upd_same))⟩⟩
/-! ### to_text -/
abbrev st_to_text : Stmt := topS 34
theorem sc_to_text : FnScope ["vocabulary", "tokens"] ["vocabulary", "tokens"] (defScope st_to_text) := ⟨rfl, rfl, rfl, by decide +kernel, rfl, by decide +kernel, by decide +kernel⟩
theorem k_to_text {f : Addr} {fd : FuncData} (F : At K mg "to_text" st_to_text f fd) (b : Binds K fd ["vocabulary", "tokens"] []) (k1 : Keeps P w K mg base 5 "need_vocabulary" ["thing"] (sp_need_vocabulary K)) (k2 : Keeps P w K mg base 3 "are_tokens_below" ["thing", "many"] (sp_are_tokens_below K))
    (k3 : Keeps P w K mg base 1 "size_raw" ["vocabulary"] (sp_size_raw K)) (k4 : Keeps P w K mg base 2 "text_raw" ["vocabulary", "tokens"] (sp_text_raw K)) : Keeps P w K mg base 6 "to_text" ["vocabulary", "tokens"] (sp_text_raw K) := by
  refine F.keeps sc_to_text b (fun vs H Q E h => ?_) (fun cdv A outer s H vs Q E hr h => ?_)
  · obtain ⟨a, t, ls, ms, r, rfl, _⟩ := h
    rfl
  obtain ⟨a, t, ls, ms, r, rfl, hv, g, hT, hl, hx, q⟩ := h
  refine ⟨_, pss_cons (ps_expr (pe_def k1 hr (by rfl) (pa_cons (pv 0) pa_nil)))
    (pss_cons (ps_if (pt_not (pt_val (pe_def k2 (hr.mono (by decide)) (by rfl) (pa_cons (pv 1) (pa_cons (pe_def k3 (hr.mono (by decide)) (by rfl) (pa_cons (pv 0) pa_nil)) pa_nil))))) (pss_one ps_never) pss_nil)
    (pss_one (ps_ret (pe_def k4 (hr.mono (by decide)) (by rfl) (pa_cons (pv 0) (pa_cons (pv 1) pa_nil)))))), ?_⟩
  refine ⟨_, rfl, a, ls, ms, rfl, hv, g, fun H1 s1 => ?_⟩
  refine ⟨_, rfl, _, rfl, a, ls, ms, rfl, hv.same s1, g.lts.most, g.few, t, r, _, rfl, Same.tup s1 hT, hl, hx, fun H2 s2 => ⟨true, rfl, iteF ?_⟩⟩
  have s3 := s1.trans s2
  exact ⟨_, rfl, _, rfl, a, t, ls, ms, r, rfl, hv.same s3, g, Same.tup s3 hT, hl, hx, fun H3 s4 => q _ (s3.trans s4)⟩
/-! ### trained -/
abbrev st_trained : Stmt := topS 35
theorem sc_trained : FnScope ["texts", "n"] ["texts", "n"] (defScope st_trained) := ⟨rfl, rfl, rfl, by decide +kernel, rfl, by decide +kernel, by decide +kernel⟩
theorem fn_trained {f : Addr} {fd : FuncData} (F : At K mg "trained" st_trained f fd) (k1 : Keeps P w K mg base 1 "are_texts" ["thing"] (sp_are_texts K)) (k2 : Keeps P w K mg base 2 "is_from" ["thing", "least"] sp_is_from)
    (k3 : Keeps P w K mg base 3 "trained_raw" ["texts", "n"] (sp_trained_raw K)) : FnOk P w K mg base CX0 4 f fd ["texts", "n"] (sp_trained_raw K) := by
  refine F.fn.ok sc_trained (fun vs H Q E h => ?_) (fun cdv A outer s H vs Q E hr h => ?_)
  · obtain ⟨t, ts, ls, n, rfl, _⟩ := h
    rfl
  obtain ⟨t, ts, ls, n, rfl, hT, X, q⟩ := h
  refine ⟨_, pss_cons (ps_if (pt_not (pt_val (pe_def k1 (hr.mono (by decide)) (by rfl) (pa_cons (pv 0) pa_nil)))) (pss_one ps_never) pss_nil)
    (pss_cons (ps_if (pt_not (pt_val (pe_def k2 (hr.mono (by decide)) (by rfl) (pa_cons (pv 1) (pa_cons pe_int pa_nil))))) (pss_one ps_never) pss_nil)
    (pss_one (ps_ret (pe_def k3 hr (by rfl) (pa_cons (pv 0) (pa_cons (pv 1) pa_nil)))))), ?_⟩
  refine ⟨_, rfl, t, ts, ls, rfl, hT, X.few, X.short, X.lets, X.ls, fun H1 s1 => ⟨true, rfl, iteF ?_⟩⟩
  refine ⟨_, rfl, (n : Int), 0, rfl, true, congrArg V.bl (decide_eq_true (by omega)), iteF ?_⟩
  exact ⟨_, rfl, _, rfl, t, ts, ls, n, rfl, Same.tup s1 hT, X, fun H2 v s2 hv => q _ v (s1.trans s2) hv⟩
theorem k_trained {f : Addr} {fd : FuncData} (F : At K mg "trained" st_trained f fd) (b : Binds K fd ["texts", "n"] []) (k1 : Keeps P w K mg base 1 "are_texts" ["thing"] (sp_are_texts K)) (k2 : Keeps P w K mg base 2 "is_from" ["thing", "least"] sp_is_from)
    (k3 : Keeps P w K mg base 3 "trained_raw" ["texts", "n"] (sp_trained_raw K)) : Keeps P w K mg base 4 "trained" ["texts", "n"] (sp_trained_raw K) := ⟨f, fd, F.mg, F.fn.kp, b, fn_trained F k1 k2 k3⟩
end
end TK
end
section
set_option Elab.async false
set_option linter.all false
set_option maxRecDepth 100000
set_option maxHeartbeats 8000000
/-! The law's own defs, first part: the deck. -/
namespace TK
open PySem PySem.Spec L2
open PyProof.Rows TL
/-! ### the deck's dict -/
abbrev kL : Key := .inr "left"
abbrev kM : Key := .inr "mixed"
abbrev kD : Key := .inr "draws"
theorem kLM : kL ≠ kM := by decide +kernel
theorem kLD : kL ≠ kD := by decide +kernel
theorem kMD : kM ≠ kD := by decide +kernel
def dkv (l : Addr) (mx k : Int) : List (Key × V) := [(kL, .ref l), (kM, .int mx), (kD, .int k)]
theorem dkv_l (l : Addr) (mx k : Int) : valV (dkv l mx k) kL = some (.ref l) := valV_pos rfl
theorem dkv_m (l : Addr) (mx k : Int) : valV (dkv l mx k) kM = some (.int mx) := (valV_neg kLM).trans (valV_pos rfl)
theorem dkv_d (l : Addr) (mx k : Int) : valV (dkv l mx k) kD = some (.int k) := (valV_neg kLD).trans ((valV_neg kMD).trans (valV_pos rfl))
theorem sLM : Str.ofString "left" ≠ Str.ofString "mixed" := by decide +kernel
theorem sLD : Str.ofString "left" ≠ Str.ofString "draws" := by decide +kernel
theorem sMD : Str.ofString "mixed" ≠ Str.ofString "draws" := by decide +kernel
theorem dkv_md (l : Addr) (mx k : Int) (v : Int) : putK (dkv l mx k) kD (.int v) = dkv l mx v := by
  unfold putK dkv
  simp [sLD, sMD]
theorem dkv_mm (l : Addr) (mx k : Int) (v : Int) : putK (dkv l mx k) kM (.int v) = dkv l v k := by
  unfold putK dkv
  simp [sLM, sMD.symm]
theorem dkv_new (l : Addr) (mx k : Int) : mergeK [] (dkv l mx k) = dkv l mx k := by
  unfold mergeK dkv putK
  simp [sLM, sLD, sMD]
/-- a deck: the dict at d, its list at l -/
structure Deck (H : Hp) (d l : Addr) : Prop where
  ex : ∃ (mx k : Int) (ns : List Int), H d = some (.dK (dkv l mx k)) ∧ H l = some (.lst (ns.map V.int)) ∧ ns.length ≤ 63 ∧ 0 ≤ mx ∧ mx < 2147483648
/-- all but the deck is as it was -/
def Rest (d l : Addr) (H H' : Hp) : Prop := ∀ b o, b ≠ d → b ≠ l → H b = some o → H' b = some o
theorem Rest.refl (d l : Addr) (H : Hp) : Rest d l H H := fun _ _ _ _ h => h
theorem Rest.trans {d l : Addr} {H H1 H2 : Hp} (a : Rest d l H H1) (b : Rest d l H1 H2) : Rest d l H H2 := fun c o h1 h2 h => b c o h1 h2 (a c o h1 h2 h)
theorem Same.rest {d l : Addr} {H H' : Hp} (a : Same H H') : Rest d l H H' := fun c o _ _ h => a c o h
theorem Deck.same {H H' : Hp} {d l : Addr} (h : Deck H d l) (s : Same H H') : Deck H' d l :=
  let ⟨mx, k, ns, h1, h2, h3⟩ := h.ex
  ⟨mx, k, ns, s _ _ h1, s _ _ h2, h3⟩
theorem Deck.ne {H : Hp} {d l : Addr} (h : Deck H d l) : d ≠ l := fun e => by
  obtain ⟨mx, k, ns, h1, h2, h3⟩ := h.ex
  rw [e, h2] at h1
  cases h1
theorem Deck.off {H : Hp} {d l p : Addr} (h : Deck H d l) (n : H p = none) : p ≠ d ∧ p ≠ l := by
  obtain ⟨mx, k, ns, h1, h2, h3⟩ := h.ex
  exact ⟨(ne_of_none h1 n).symm, (ne_of_none h2 n).symm⟩
def iD (i : Int) : PyData := .int i
theorem dpI {K : PySem.W.Frag} {H : Hp} : ∀ ns : List Int, DpAll K H (ns.map V.int) (ns.map iD)
  | [] => .nil
  | n :: ns => .cons (.int n) (dpI ns)
theorem shapedI (ns : List Int) : SeqAt.shaped (.list (ns.map iD)) = true := by
  have h1 : ∀ ns : List Int, PyData.canLayAll0 (ns.map iD) = true := fun ns => by
    induction ns with
    | nil => rfl
    | cons n ns ih =>
      show (PyData.canLay0 (iD n) && PyData.canLayAll0 (ns.map iD)) = true
      rw [ih]
      rfl
  have h2 : ∀ ns : List Int, PyData.depthAll (ns.map iD) ≤ 1 := fun ns => by
    induction ns with
    | nil => decide
    | cons n ns ih =>
      show max (PyData.depth (iD n)) (PyData.depthAll (ns.map iD)) ≤ 1
      exact Nat.max_le.mpr ⟨by simp [iD, PyData.depth], ih⟩
  have h3 := h1 ns
  have h4 := h2 ns
  simp [SeqAt.shaped, PyData.canLay0, PyData.depth, h3]
  omega
section
variable {P : Program} {w : World} {K : PySem.W.Frag} {mg : Str → Option Value} {base : Heap}
/-! ### _law_deck -/
abbrev st_law_deck : Stmt := topS 37
theorem sc_law_deck : FnScope ["_law_script", "_law_seed", "_law_mixed", "_law_cell"] ["_law_script", "_law_seed"] (defScope st_law_deck) := ⟨rfl, rfl, rfl, by decide +kernel, rfl, by decide +kernel, by decide +kernel⟩
def sp_law_deck (K : PySem.W.Frag) : Sp := fun vs H Q _ => ∃ (a : Addr) (ns : List Int) (sd : Int), vs = [.ref a, .int sd] ∧ SqL K H a (ns.map V.int) ∧ 0 ≤ sd ∧ sd < 2147483648 ∧ ∀ H' d l, Same H H' → H d = none → H l = none → Deck H' d l → Q (.ref d) H'
theorem cut63 (ns : List Int) : cutV (ns.map V.int) none (some 63) = (ns.take 63).map V.int := by
  unfold cutV
  rw [HT.sIx_none, show HT.sIx (ns.map V.int).length (ns.map V.int).length (some 63) = min 63 (ns.map V.int).length from HT.sIx_nat _ _ 63, List.drop_zero, Nat.sub_zero, List.length_map, List.map_take]
  by_cases h : 63 ≤ ns.length
  · rw [Nat.min_eq_left h]
  · rw [Nat.min_eq_right (by omega), List.take_of_length_le (by rw [List.length_map]; exact Nat.le_refl _), List.take_of_length_le (by rw [List.length_map]; omega)]
theorem k_law_deck {f : Addr} {fd : FuncData} (G : Names mg) (F : At K mg "_law_deck" st_law_deck f fd) (b : Binds K fd ["_law_script", "_law_seed"] []) : Keeps P w K mg base 1 "_law_deck" ["_law_script", "_law_seed"] (sp_law_deck K) := by
  refine F.keeps sc_law_deck b (fun vs H Q E h => ?_) (fun cdv A outer s H vs Q E hr h => ?_)
  · obtain ⟨a, ns, sd, rfl, _⟩ := h
    rfl
  obtain ⟨a, ns, sd, rfl, hA, h0, h1, q⟩ := h
  have nd := sc_law_deck.nd
  refine ⟨_, pss_cons (ps_set (i := 2) nd rfl (.inl rfl) (pv 1))
    (pss_cons (ps_for PassesOwn.never rfl (pi_list (pe_slice sl_list (pv 0) po_none (po_some pe_int))) (pg_name (i := 3) nd rfl (.inl rfl))
      (pss_one (ps_set (i := 2) nd rfl (.inl rfl) (pe_op op_mod (pe_callTy call_int1 (by rfl) (G.blt _ (by decide)) boot_int (pa_cons (pe_op op_add (pe_op op_add (pe_op op_mul (pv 2) pe_int) (pe_op op_mod (pe_callTy call_int1 (by rfl) (G.blt _ (by decide)) boot_int (pa_cons (pv 3) pa_nil)) pe_int)) pe_int) pa_nil)) pe_int))))
    (pss_one (ps_ret (pe_disp (pps_cons pe_str (pe_revL (pe_callTy call_list_of (by rfl) (G.blt _ (by decide)) boot_list (pa_cons (pe_slice sl_list (pv 0) po_none (po_some pe_int)) pa_nil))) (pps_cons pe_str (pv 2) (pps_cons pe_str pe_int pps_nil))) (by rfl) (by rfl) (fun z => by cases z) (by decide))))), ?_⟩
  refine ⟨_, rfl, _, rfl, 63, rfl, a, _, rfl, hA, fun c nc => ?_⟩
  rw [cut63]
  have s1 := Same.new (o := .lst ((ns.take 63).map V.int)) nc
  refine ⟨c, rfl, ⟨_, .inl (.inl upd_same)⟩, ?_⟩
  refine for_list (xs := (ns.take 63).map V.int) (fun i σ H3 => ∃ y3 mx, σ = [some (.ref a), some (.int sd), some (.int mx), y3] ∧ H3 = upd H c (.lst ((ns.take 63).map V.int)) ∧ 0 ≤ mx ∧ mx < 2147483648) ⟨_, sd, rfl, rfl, h0, h1⟩ (fun i σ H3 _ ⟨_, _, _, e, _⟩ => by rw [e]; exact .inl (.inl upd_same))
    (fun i x σ H3 hx ⟨y3, mx, es, eH, m0, m1⟩ => ?_) fun σ H3 ⟨y3, mx, es, eH, m0, m1⟩ => ?_
  · subst es eH
    obtain ⟨z, hz⟩ : ∃ z, x = .int z := by
      rw [List.getElem?_map] at hx
      cases hc : (ns.take 63)[i]? with
      | none => rw [hc] at hx; cases hx
      | some z => rw [hc] at hx; exact ⟨z, (Option.some.inj hx).symm⟩
    subst hz
    refine ⟨_, rfl, mx, 47293, rfl, rfl, .inl ⟨by omega, by omega⟩, _, rfl, .inl ⟨z, rfl, z, 2147483629, rfl, rfl, by show (0 : Int) < 2147483629; decide, _, _, rfl, rfl, _, _, rfl, rfl, .inl ⟨_, rfl, _, 2147483563, rfl, rfl, by show (0 : Int) < 2147483563; decide, _, _, rfl, rfl, ?_, ?_⟩⟩⟩
    · exact Int.emod_nonneg _ (by decide)
    · have := Int.emod_lt_of_pos (mx * 47293 + z % 2147483629 + 61) (show (0 : Int) < 2147483563 by decide)
      show (mx * 47293 + z % 2147483629 + 61) % 2147483563 < 2147483648
      omega
  · subst es eH
    refine fun d hd => ?_
    have s2 := s1.trans (Same.new (o := .dK []) hd)
    refine ⟨_, rfl, 63, rfl, a, _, rfl, s2.seq hA, fun c2 nc2 => ?_⟩
    rw [cut63]
    have s3 := s2.trans (Same.new (o := .lst ((ns.take 63).map V.int)) nc2)
    refine ⟨c2, _, rfl, .inl (.inl (.inl upd_same)), fun c3 nc3 => ?_⟩
    have s4 := s3.trans (Same.new (o := .lst ((ns.take 63).map V.int)) nc3)
    refine ⟨c3, _, rfl, .inl (.inl upd_same), fun l nl => ?_⟩
    have s5 := s4.trans (Same.new (o := .lst ((ns.take 63).map V.int).reverse) nl)
    have e1 : ((ns.take 63).map V.int).reverse = ((ns.take 63).reverse).map V.int := by rw [List.map_reverse]
    have d1 : upd (upd H c (.lst ((ns.take 63).map V.int))) d (.dK []) d = some (.dK []) := upd_same
    have d2 := (Same.new (o := .lst ((ns.take 63).map V.int)) nc2) _ _ d1
    have d3 := (Same.new (o := .lst ((ns.take 63).map V.int)) nc3) _ _ d2
    have d4 := (Same.new (o := .lst ((ns.take 63).map V.int).reverse) nl) _ _ d3
    have dl : l ≠ d := (ne_of_none d3 nl).symm
    refine ⟨_, rfl, d4, dkv l mx 0, rfl, by show 3 ≤ 15; decide, ?_⟩
    rw [dkv_new]
    have nd0 : H d = none := s1.free hd
    have nl0 : H l = none := s4.free nl
    refine q _ d l (fun b o e => ?_) nd0 nl0 ⟨mx, 0, (ns.take 63).reverse, upd_same, ?_, ?_, m0, m1⟩
    · rw [upd_ne (ne_of_none e nd0)]
      exact s5 _ _ e
    · rw [upd_ne dl, upd_same, e1]
    · rw [List.length_reverse, List.length_take]
      omega
end
end TK
end
section
set_option Elab.async false
set_option linter.all false
set_option maxRecDepth 100000
set_option maxHeartbeats 8000000
/-! The law's own defs, second part: a draw. -/
namespace TK
open PySem PySem.Spec L2
open PyProof.Rows TL
section
variable {H : Hp} {d l : Addr} {mx k : Int}
theorem get_l (h : H d = some (.dK (dkv l mx k))) : DGet H d (.str "left") (some (.ref l)) := by
  have := DGet.k (k := kL) h
  rwa [dkv_l] at this
theorem get_m (h : H d = some (.dK (dkv l mx k))) : DGet H d (.str "mixed") (some (.int mx)) := by
  have := DGet.k (k := kM) h
  rwa [dkv_m] at this
theorem get_d (h : H d = some (.dK (dkv l mx k))) : DGet H d (.str "draws") (some (.int k)) := by
  have := DGet.k (k := kD) h
  rwa [dkv_d] at this
theorem put_m (h : H d = some (.dK (dkv l mx k))) (v : Int) : DPut H d (.str "mixed") (.int v) (upd H d (.dK (dkv l v k))) := by
  have := DPut.k (k := kM) (v := .int v) h (by show 3 < sizeLine; exact line_lt (by decide))
  rwa [dkv_mm] at this
theorem put_d (h : H d = some (.dK (dkv l mx k))) (v : Int) : DPut H d (.str "draws") (.int v) (upd H d (.dK (dkv l mx v))) := by
  have := DPut.k (k := kD) (v := .int v) h (by show 3 < sizeLine; exact line_lt (by decide))
  rwa [dkv_md] at this
end
theorem mod_nat (z : Int) {m : Nat} (h : 1 ≤ m) : ∃ r : Nat, r < m ∧ V.int (z.fmod (m : Int)) = nV r := by
  have e : z.fmod (m : Int) = z % (m : Int) := Int.fmod_eq_emod_of_nonneg z (by omega)
  have h1 : 0 ≤ z % (m : Int) := Int.emod_nonneg _ (by omega)
  have h2 : z % (m : Int) < m := Int.emod_lt_of_pos _ (by omega)
  refine ⟨(z % (m : Int)).toNat, by omega, ?_⟩
  rw [e]
  unfold nV
  rw [Int.toNat_of_nonneg h1]
theorem fin_mod {Q : VK} {H : Hp} {z : Int} {m : Nat} (h : 1 ≤ m) (q : ∀ r : Nat, r < m → Q (nV r) H) : Q (.int (z.fmod (m : Int))) H := by
  obtain ⟨r, h1, h2⟩ := mod_nat z h
  rw [h2]
  exact q r h1
theorem pos1 (z : Int) : -(2 ^ 64) < z % 2147483647 ∧ z % 2147483647 < 2 ^ 64 := by
  have := Int.emod_nonneg z (show (2147483647 : Int) ≠ 0 by decide)
  have := Int.emod_lt_of_pos z (show (0 : Int) < 2147483647 by decide)
  omega
theorem pos2 (z : Int) : -(2 ^ 64) < z % 2147483629 ∧ z % 2147483629 < 2 ^ 64 := by
  have := Int.emod_nonneg z (show (2147483629 : Int) ≠ 0 by decide)
  have := Int.emod_lt_of_pos z (show (0 : Int) < 2147483629 by decide)
  omega
theorem max_small {m : Nat} (h2 : m ≤ 1000) : (if (m : Int) > 2 then (m : Int) else 2) ≠ 0 ∧ (if (m : Int) > 2 then (m : Int) else 2).natAbs < 1073741824 := by
  split <;> omega
theorem eqv_nil (ns : List Int) : PyData.eqv (.list (ns.map iD)) (.list []) = ns.isEmpty := by
  cases ns with
  | nil => rfl
  | cons n ns => rfl
section
variable {P : Program} {w : World} {K : PySem.W.Frag} {mg : Str → Option Value} {base : Heap}
abbrev st_law_draw : Stmt := topS 38
theorem sc_law_draw : FnScope ["_law_deck_here", "_law_many", "_law_cell", "_law_figure"] ["_law_deck_here", "_law_many"] (defScope st_law_draw) := ⟨rfl, rfl, rfl, by decide +kernel, rfl, by decide +kernel, by decide +kernel⟩
def sp_law_draw : Sp := fun vs H Q _ => ∃ (d l : Addr) (m : Nat), vs = [.ref d, nV m] ∧ Deck H d l ∧ 1 ≤ m ∧ m ≤ 1000 ∧ ∀ H' (r : Nat), Deck H' d l → Rest d l H H' → r < m → Q (nV r) H'
theorem k_law_draw {f : Addr} {fd : FuncData} (G : Names mg) (F : At K mg "_law_draw" st_law_draw f fd) (b : Binds K fd ["_law_deck_here", "_law_many"] []) : Keeps P w K mg base 1 "_law_draw" ["_law_deck_here", "_law_many"] sp_law_draw := by
  refine F.keeps sc_law_draw b (fun vs H Q E h => ?_) (fun cdv A outer s H vs Q E hr h => ?_)
  · obtain ⟨d, l, m, rfl, _⟩ := h
    rfl
  obtain ⟨d, l, m, rfl, hd, m1, m2, q⟩ := h
  have nd := sc_law_draw.nd
  have hu := hu_of hr
  refine ⟨_, pss_cons (ps_dput hu (pv 0) pe_str (pe_op op_add (pe_dget hu (pv 0) pe_str (fun _ _ => rfl)) pe_int) rfl)
    (pss_cons (ps_if (pt_cmpR (op_neD hr.units) (pe_dget hu (pv 0) pe_str (fun _ _ => rfl)) (pe_lst pa_nil) (nomark _))
      (pss_cons (ps_set (i := 2) nd rfl (.inl rfl) (pe_bm0 PySem.F.plainAttrs_list PySem.F.slot_list_pop PySem.F.type_list_pop mt_pop (pe_dget hu (pv 0) pe_str (fun _ _ => rfl))))
      (pss_cons (ps_if (pt_cmpR op_ge (pv 2) (pe_op op_pow pe_int pe_int) (nomark _))
        (pss_cons (ps_expr (pe_bm PySem.F.plainAttrs_list PySem.F.slot_list_append PySem.F.type_list_append mt_append (pe_dget hu (pv 0) pe_str (fun _ _ => rfl)) (pa_cons (pe_op op_fdivN (pv 2) (pe_callB (call_max2 rfl) (by rfl) (G.blt _ (by decide)) (by decide +kernel) (pa_cons pe_int (pa_cons (pv 1) pa_nil)))) pa_nil)))
        (pss_one (ps_ret (pe_op op_modN (pe_callTy call_int1 (by rfl) (G.blt _ (by decide)) boot_int (pa_cons (pv 2) pa_nil)) (pv 1))))) pss_nil)
      (pss_one (ps_dput hu (pv 0) pe_str (pe_op op_mod (pe_callTy call_int1 (by rfl) (G.blt _ (by decide)) boot_int (pa_cons (pe_op op_add (pe_op op_add (pe_op op_mul (pe_dget hu (pv 0) pe_str (fun _ _ => rfl)) pe_int) (pe_op op_mod (pe_callTy call_int1 (by rfl) (G.blt _ (by decide)) boot_int (pa_cons (pv 2) pa_nil)) pe_int)) pe_int) pa_nil)) pe_int) rfl)))) pss_nil)
    (pss_cons (ps_set (i := 3) nd rfl (.inl rfl) (pe_op op_mod (pe_callTy call_int1 (by rfl) (G.blt _ (by decide)) boot_int (pa_cons (pe_op op_add (pe_dget hu (pv 0) pe_str (fun _ _ => rfl)) (pe_op op_mul pe_int (pe_dget hu (pv 0) pe_str (fun _ _ => rfl)))) pa_nil)) pe_int))
    (pss_cons (ps_set (i := 3) nd rfl (.inl rfl) (pe_op op_mod (pe_callTy call_int1 (by rfl) (G.blt _ (by decide)) boot_int (pa_cons (pe_op op_add (pe_op op_add (pe_op op_mul (pv 3) (pv 3)) (pe_op op_mul pe_int (pe_dget hu (pv 0) pe_str (fun _ _ => rfl)))) pe_int) pa_nil)) pe_int))
    (pss_cons (ps_set (i := 3) nd rfl (.inl rfl) (pe_op op_mod (pe_callTy call_int1 (by rfl) (G.blt _ (by decide)) boot_int (pa_cons (pe_op op_add (pe_op op_mul (pv 3) pe_int) pe_int) pa_nil)) pe_int))
    (pss_one (ps_ret (pe_op op_modN (pe_callTy call_int1 (by rfl) (G.blt _ (by decide)) boot_int (pa_cons (pe_op op_fdivN (pv 3) pe_int) pa_nil)) (pv 1)))))))), ?_⟩
  have dne := hd.ne
  obtain ⟨mx, k, ns, hD, hL, l63, x0, x1⟩ := id hd.ex
  -- draws + 1
  refine ⟨_, rfl, d, _, rfl, get_d hD, _, _, rfl, rfl, _, rfl, d, _, rfl, put_d hD (k + 1), ?_⟩
  have hD1 : upd H d (.dK (dkv l mx (k + 1))) d = some (.dK (dkv l mx (k + 1))) := upd_same
  have hL1 : upd H d (.dK (dkv l mx (k + 1))) l = some (.lst (ns.map V.int)) := by rw [upd_ne dne.symm]; exact hL
  have r1 : Rest d l H (upd H d (.dK (dkv l mx (k + 1)))) := fun b o h1 h2 h => by rw [upd_ne h1]; exact h
  revert hD1 hL1 r1
  generalize upd H d (.dK (dkv l mx (k + 1))) = H1
  intro hD1 hL1 r1
  refine ⟨_, rfl, d, _, rfl, get_l hD1, Nat.zero_le _, fun e ne => ?_⟩
  have s2 : Same H1 (upd H1 e (.lst [])) := Same.new ne
  have hD2 := s2 _ _ hD1
  have hL2 := s2 _ _ hL1
  have r2 : Rest d l H (upd H1 e (.lst [])) := r1.trans (Same.rest s2)
  have he : SqL K (upd H1 e (.lst [])) e [] := .inl (.inl upd_same)
  revert s2 hD2 hL2 r2 he
  generalize upd H1 e (.lst []) = H2
  intro s2 hD2 hL2 r2 he
  refine ⟨.list (ns.map iD), .list [], .lst (.inl (.inl hL2)) (dpI ns), .lst he .nil, shapedI ns, shapedI [], _, rfl, ?_⟩
  rw [eqv_nil]
  rcases List.eq_nil_or_concat ns with rfl | ⟨ns', z, rfl⟩
  · refine iteF ?_
    have dk2 : Deck H2 d l := ⟨mx, k + 1, [], hD2, hL2, by decide, x0, x1⟩
    refine ⟨_, rfl, d, _, rfl, get_m hD2, _, rfl, d, _, rfl, get_d hD2, 31337, _, rfl, rfl, .inl ⟨by decide, by decide⟩, _, _, rfl, rfl, .inl ⟨_, rfl, _, 2147483647, rfl, rfl, by show (0 : Int) < 2147483647; decide, ?_⟩⟩
    refine ⟨_, rfl, _, rfl, _, _, rfl, rfl, .inl (pos1 _), _, rfl, d, _, rfl, get_d hD2, 48271, _, rfl, rfl, .inl ⟨by decide, by decide⟩, _, _, rfl, rfl, _, _, rfl, rfl, .inl ⟨_, rfl, _, 2147483629, rfl, rfl, by show (0 : Int) < 2147483629; decide, ?_⟩⟩
    refine ⟨_, rfl, _, _, rfl, rfl, .inl (pos2 _), _, _, rfl, rfl, .inl ⟨_, rfl, _, 2147483563, rfl, rfl, by show (0 : Int) < 2147483563; decide, ?_⟩⟩
    refine ⟨_, rfl, _, 64, rfl, rfl, ⟨by decide, by decide⟩, .inl ⟨_, rfl, _, rfl, _, (m : Int), rfl, rfl, by show (m : Int) ≠ 0; omega, ?_⟩⟩
    exact fin_mod m1 fun r hr1 => q _ r dk2 r2 hr1
  · rw [List.concat_eq_append] at hL2 l63 ⊢
    rw [show (!(ns' ++ [z]).isEmpty) = true by cases ns' <;> rfl]
    refine iteT ?_
    rw [List.length_append, List.length_singleton] at l63
    refine ⟨_, rfl, d, _, rfl, get_l hD2, .inl ⟨rfl, _, .inl (.inl hL2)⟩, l, _, .int z, rfl, rfl, hL2, ?_, ?_⟩
    · rw [List.map_append, List.length_append, List.length_map, List.map_singleton, List.length_singleton, Nat.add_sub_cancel, List.getElem?_append_right (by rw [List.length_map]; exact Nat.le_refl _), List.length_map, Nat.sub_self]
      rfl
    rw [show ((ns' ++ [z]).map V.int).dropLast = ns'.map V.int by rw [List.map_append, List.map_singleton, List.dropLast_concat]]
    have hD3 : upd H2 l (.lst (ns'.map V.int)) d = some (.dK (dkv l mx (k + 1))) := by rw [upd_ne dne]; exact hD2
    have hL3 : upd H2 l (.lst (ns'.map V.int)) l = some (.lst (ns'.map V.int)) := upd_same
    have r3 : Rest d l H (upd H2 l (.lst (ns'.map V.int))) := r2.trans fun b o h1 h2 h => by rw [upd_ne h2]; exact h
    revert hD3 hL3 r3
    generalize upd H2 l (.lst (ns'.map V.int)) = H3
    intro hD3 hL3 r3
    refine ⟨_, rfl, 10, 18, rfl, rfl, ⟨by decide, by decide, by decide⟩, z, _, rfl, rfl, _, rfl, ite2 (fun _ => ?_) (fun _ => ?_)⟩
    · refine ⟨_, rfl, d, _, rfl, get_l hD3, .inl ⟨rfl, _, .inl (.inl hL3)⟩, _, rfl, _, rfl, 2, (m : Int), rfl, z, _, rfl, rfl, max_small m2, l, _, _, rfl, rfl, hL3, by rw [List.length_map]; exact line_lt (by omega), ?_⟩
      have hD4 : upd H3 l (.lst (ns'.map V.int ++ [V.int (z.fdiv (if (m : Int) > 2 then (m : Int) else 2))])) d = some (.dK (dkv l mx (k + 1))) := by rw [upd_ne dne]; exact hD3
      refine ⟨_, rfl, .inl ⟨_, rfl, _, rfl, z, (m : Int), rfl, rfl, by show (m : Int) ≠ 0; omega, ?_⟩⟩
      refine fin_mod m1 fun r hr1 => q _ r ⟨mx, k + 1, ns' ++ [z.fdiv (if (m : Int) > 2 then (m : Int) else 2)], hD4, ?_, by rw [List.length_append, List.length_singleton]; omega, x0, x1⟩ (r3.trans fun b o h1 h2 h => by rw [upd_ne h2]; exact h) hr1
      rw [upd_same, List.map_append]
      rfl
    · refine ⟨_, rfl, d, _, rfl, get_m hD3, mx, 39373, rfl, rfl, .inl ⟨by omega, by omega⟩, _, rfl, .inl ⟨z, rfl, z, 2147483629, rfl, rfl, by show (0 : Int) < 2147483629; decide, _, _, rfl, rfl, _, _, rfl, rfl, .inl ⟨_, rfl, _, 2147483587, rfl, rfl, by show (0 : Int) < 2147483587; decide, ?_⟩⟩⟩
      refine ⟨_, rfl, d, _, rfl, put_m hD3 _, ?_⟩
      have y0 := Int.emod_nonneg (mx * 39373 + z % 2147483629 + 53) (show (2147483587 : Int) ≠ 0 by decide)
      have y1 := Int.emod_lt_of_pos (mx * 39373 + z % 2147483629 + 53) (show (0 : Int) < 2147483587 by decide)
      have hD2 : upd H3 d (.dK (dkv l ((mx * 39373 + z % 2147483629 + 53) % 2147483587) (k + 1))) d = some (.dK (dkv l ((mx * 39373 + z % 2147483629 + 53) % 2147483587) (k + 1))) := upd_same
      have dk2 : Deck (upd H3 d (.dK (dkv l ((mx * 39373 + z % 2147483629 + 53) % 2147483587) (k + 1)))) d l := ⟨((mx * 39373 + z % 2147483629 + 53) % 2147483587), k + 1, ns', hD2, by rw [upd_ne dne.symm]; exact hL3, by omega, y0, by omega⟩
      have r2 : Rest d l H (upd H3 d (.dK (dkv l ((mx * 39373 + z % 2147483629 + 53) % 2147483587) (k + 1)))) := r3.trans fun b o h1 h2 h => by rw [upd_ne h1]; exact h
      refine ⟨_, rfl, d, _, rfl, get_m hD2, _, rfl, d, _, rfl, get_d hD2, 31337, _, rfl, rfl, .inl ⟨by decide, by decide⟩, _, _, rfl, rfl, .inl ⟨_, rfl, _, 2147483647, rfl, rfl, by show (0 : Int) < 2147483647; decide, ?_⟩⟩
      refine ⟨_, rfl, _, rfl, _, _, rfl, rfl, .inl (pos1 _), _, rfl, d, _, rfl, get_d hD2, 48271, _, rfl, rfl, .inl ⟨by decide, by decide⟩, _, _, rfl, rfl, _, _, rfl, rfl, .inl ⟨_, rfl, _, 2147483629, rfl, rfl, by show (0 : Int) < 2147483629; decide, ?_⟩⟩
      refine ⟨_, rfl, _, _, rfl, rfl, .inl (pos2 _), _, _, rfl, rfl, .inl ⟨_, rfl, _, 2147483563, rfl, rfl, by show (0 : Int) < 2147483563; decide, ?_⟩⟩
      refine ⟨_, rfl, _, 64, rfl, rfl, ⟨by decide, by decide⟩, .inl ⟨_, rfl, _, rfl, _, (m : Int), rfl, rfl, by show (m : Int) ≠ 0; omega, ?_⟩⟩
      exact fin_mod m1 fun r hr1 => q _ r dk2 r2 hr1
end
end TK
end
section
set_option Elab.async false
set_option linter.all false
set_option maxRecDepth 100000
set_option maxHeartbeats 8000000
/-! The law's own defs, third part: drawn items, letters, texts. -/
namespace TK
open PySem PySem.Spec L2
open PyProof.Rows TL
def Low (c : Nat) : Prop := c ∈ [97, 98, 99, 120, 121, 122]
theorem sIdx {r n : Nat} (h : r < n) : seqIndex? (r : Int) n = some r := by
  rw [seqIndex_of (by omega) (by omega), Int.toNat_natCast]
section
variable {P : Program} {w : World} {K : PySem.W.Frag} {mg : Str → Option Value} {base : Heap}
/-! ### _law_pick -/
abbrev st_law_pick : Stmt := topS 39
theorem sc_law_pick : FnScope ["_law_deck_here", "_law_some"] ["_law_deck_here", "_law_some"] (defScope st_law_pick) := ⟨rfl, rfl, rfl, by decide +kernel, rfl, by decide +kernel, by decide +kernel⟩
def sp_law_pick : Sp := fun vs H Q _ => ∃ (d l p : Addr) (xs : List V), vs = [.ref d, .ref p] ∧ Deck H d l ∧ H p = some (.lst xs) ∧ p ≠ d ∧ p ≠ l ∧ 1 ≤ xs.length ∧ xs.length ≤ 1000 ∧ ∀ H' x, Deck H' d l → Rest d l H H' → x ∈ xs → Q x H'
theorem k_law_pick {f : Addr} {fd : FuncData} (G : Names mg) (F : At K mg "_law_pick" st_law_pick f fd) (b : Binds K fd ["_law_deck_here", "_law_some"] []) (k1 : Keeps P w K mg base 1 "_law_draw" ["_law_deck_here", "_law_many"] sp_law_draw) :
    Keeps P w K mg base 2 "_law_pick" ["_law_deck_here", "_law_some"] sp_law_pick := by
  refine F.keeps sc_law_pick b (fun vs H Q E h => ?_) (fun cdv A outer s H vs Q E hr h => ?_)
  · obtain ⟨d, l, p, xs, rfl, _⟩ := h
    rfl
  obtain ⟨d, l, p, xs, rfl, dk, hp, n1, n2, l1, l2, q⟩ := h
  refine ⟨_, pss_one (ps_ret (pe_ix ix_list (pv 1) (pe_def k1 hr (by rfl) (pa_cons (pv 0) (pa_cons (pe_callB call_len_seq (by rfl) (G.blt _ (by decide)) PySem.boot_len (pa_cons (pv 1) pa_nil)) pa_nil))) (fun _ _ => rfl))), ?_⟩
  refine ⟨_, rfl, _, rfl, _, rfl, p, xs, rfl, .inl (.inl (.inl hp)), d, l, xs.length, rfl, dk, l1, l2, fun H' r dk2 rs hr2 => ?_⟩
  exact ⟨p, xs, _, xs[r], rfl, rfl, .inl (.inl (rs _ _ n1 n2 hp)), atI_nat (List.getElem?_eq_getElem hr2), q _ _ dk2 rs (List.getElem_mem _)⟩
/-! ### _law_letters -/
abbrev st_law_letters : Stmt := topS 40
theorem sc_law_letters : FnScope ["_law_deck_here", "_law_most", "_law_left", "_law_found", "_law_turn"] ["_law_deck_here", "_law_most"] (defScope st_law_letters) := ⟨rfl, rfl, rfl, by decide +kernel, rfl, by decide +kernel, by decide +kernel⟩
def sp_law_letters : Sp := fun vs H Q _ => ∃ (d l : Addr), vs = [.ref d, .int 6] ∧ Deck H d l ∧ ∀ H' x, Deck H' d l → Rest d l H H' → x ≠ [] → x.length ≤ 6 → (∀ c ∈ x, Low c) → Q (sV x) H'
theorem signs6 : ∀ v ∈ signsV "abcxyz", ∃ c, v = sV [c] ∧ Low c := by
  have e : signsV (Str.ofString "abcxyz") = [97, 98, 99, 120, 121, 122].map fun c => sV [c] := by decide +kernel
  intro v hv
  rw [e] at hv
  obtain ⟨c, hc, rfl⟩ := List.mem_map.mp hv
  exact ⟨c, rfl, hc⟩
theorem k_law_letters {f : Addr} {fd : FuncData} (G : Names mg) (F : At K mg "_law_letters" st_law_letters f fd) (b : Binds K fd ["_law_deck_here", "_law_most"] []) (k1 : Keeps P w K mg base 1 "_law_draw" ["_law_deck_here", "_law_many"] sp_law_draw) :
    Keeps P w K mg base 2 "_law_letters" ["_law_deck_here", "_law_most"] sp_law_letters := by
  refine F.keeps sc_law_letters b (fun vs H Q E h => ?_) (fun cdv A outer s H vs Q E hr h => ?_)
  · obtain ⟨d, l, rfl, _⟩ := h
    rfl
  obtain ⟨d, l, rfl, dk, q⟩ := h
  have nd := sc_law_letters.nd
  refine ⟨_, pss_cons (ps_par (i := 2) (j := 3) rfl nd rfl rfl (by decide) rfl rfl (pa_cons (pe_callTy (cr_listS rfl) (by rfl) (G.blt _ (by decide)) boot_list (pa_cons pe_str pa_nil)) (pa_cons pe_str pa_nil)) (by rfl))
    (pss_cons (ps_for PassesOwn.never rfl (pi_range1 (by rfl) (G.blt _ (by decide)) (pa_cons (pe_op op_add pe_int (pe_def k1 hr (by rfl) (pa_cons (pv 0) (pa_cons (pv 1) pa_nil)))) pa_nil)) (pg_name (i := 4) nd rfl (.inl rfl))
      (pss_one (ps_set (i := 3) nd rfl (.inl rfl) (pe_op op_add_str (pv 3) (pe_bm PySem.F.plainAttrs_list PySem.F.slot_list_pop PySem.F.type_list_pop mt_popAt (pv 2) (pa_cons (pe_def k1 hr (by rfl) (pa_cons (pv 0) (pa_cons (pe_callB call_len_seq (by rfl) (G.blt _ (by decide)) PySem.boot_len (pa_cons (pv 2) pa_nil)) pa_nil))) pa_nil))))))
    (pss_one (ps_ret (pv 3)))), ?_⟩
  refine ⟨"abcxyz", rfl, line_small (by decide +kernel), fun p np => ⟨_, _, rfl, ?_⟩⟩
  obtain ⟨pd, pl⟩ := dk.off np
  have s1 := Same.new (o := .lst (signsV "abcxyz")) np
  have hp1 : upd H p (.lst (signsV "abcxyz")) p = some (.lst (signsV "abcxyz")) := upd_same
  have dk1 := dk.same s1
  revert s1 hp1 dk1
  generalize upd H p (.lst (signsV "abcxyz")) = H1
  intro s1 hp1 dk1
  refine ⟨_, rfl, _, rfl, d, l, 6, rfl, dk1, by decide, by decide, fun H2 r dk2 rs2 hr2 => ?_⟩
  refine ⟨1, _, rfl, rfl, _, rfl, by omega, by omega, ?_⟩
  have en : (1 + (r : Int)).toNat = 1 + r := by omega
  have r2 : Rest d l H H2 := (Same.rest s1).trans rs2
  refine for_range (lo := 0) (n := (1 + (r : Int)).toNat) (fun i σ H3 => ∃ x y4 xs, σ = [some (.ref d), some (.int 6), some (.ref p), some (sV x), y4] ∧ Deck H3 d l ∧ Rest d l H H3 ∧ H3 p = some (.lst xs) ∧ xs.length + i = 6 ∧ x.length = i ∧ (∀ v ∈ xs, ∃ c, v = sV [c] ∧ Low c) ∧ ∀ c ∈ x, Low c)
    ⟨[], _, signsV "abcxyz", by rw [sV_nil]; rfl, dk2, r2, rs2 _ _ pd pl hp1, by decide +kernel, rfl, signs6, fun c hc => nomatch hc⟩ (fun i σ H3 hi ⟨x, y4, xs, es, dk3, r3, hp3, hx, hl, hxs, hc⟩ => ?_) fun σ H3 ⟨x, y4, xs, es, dk3, r3, hp3, hx, hl, hxs, hc⟩ => ?_
  · subst es
    refine ⟨_, rfl, _, rfl, .inl ⟨rfl, _, .inl (.inl hp3)⟩, _, rfl, _, rfl, p, xs, rfl, .inl (.inl (.inl hp3)), d, l, xs.length, rfl, dk3, by omega, by omega, fun H4 r4 dk4 rs4 hr4 => ?_⟩
    have hp4 := rs4 _ _ pd pl hp3
    obtain ⟨c, ec, hlow⟩ := hxs xs[r4] (List.getElem_mem _)
    refine ⟨p, xs, _, r4, xs[r4], rfl, rfl, hp4, by omega, by omega, sIdx hr4, List.getElem?_eq_getElem hr4, ?_⟩
    rw [ec]
    refine ⟨sT x, sT [c], rfl, rfl, by rw [sT_len, sT_len]; exact line_small (by simp; omega), x ++ [c], some (.int (0 + (i : Int))), xs.eraseIdx r4, ?_, ?_, ?_, upd_same, ?_, by simp; omega, fun v hv => hxs v (List.mem_of_mem_eraseIdx hv), fun e he => ?_⟩
    · rw [sT_app]
      rfl
    · obtain ⟨mx, k, ns, h1, h2, h3⟩ := dk4.ex
      exact ⟨mx, k, ns, by rw [upd_ne pd.symm]; exact h1, by rw [upd_ne pl.symm]; exact h2, h3⟩
    · intro b o h1 h2 h
      rw [upd_ne (ne_of_none h np)]
      exact rs4 _ _ h1 h2 (r3 _ _ h1 h2 h)
    · rw [List.length_eraseIdx, if_pos hr4]
      omega
    · rcases List.mem_append.mp he with z | z
      · exact hc e z
      · rw [List.mem_singleton.mp z]; exact hlow
  · subst es
    refine ⟨_, rfl, q H3 x dk3 r3 (fun z => ?_) (by omega) hc⟩
    rw [z] at hl
    simp at hl
    omega
/-! ### _law_drawn_text -/
abbrev st_law_drawn_text : Stmt := topS 41
theorem sc_law_drawn_text : FnScope ["_law_deck_here", "_law_letters_here", "_law_most", "_law_found", "_law_turn", "_law_part", "_law_at"] ["_law_deck_here", "_law_letters_here", "_law_most"] (defScope st_law_drawn_text) := ⟨rfl, rfl, rfl, by decide +kernel, rfl, by decide +kernel, by decide +kernel⟩
def sp_law_drawn_text : Sp := fun vs H Q _ => ∃ (d l : Addr) (x : List Nat), vs = [.ref d, sV x, .int 60] ∧ Deck H d l ∧ x ≠ [] ∧ x.length ≤ 6 ∧ ∀ H' y, Deck H' d l → Rest d l H H' → y.length ≤ 60 → (∀ c ∈ y, c ∈ x) → Q (sV y) H'
theorem cutS_sT (x : List Nat) (lo hi : Option Int) : ∃ y, V.str (cutS (sT x) lo hi) = sV y ∧ y.length ≤ x.length ∧ ∀ c ∈ y, c ∈ x := by
  unfold cutS
  rw [sT_list]
  refine ⟨_, rfl, ?_, fun c hc => List.mem_of_mem_drop (List.mem_of_mem_take hc)⟩
  rw [List.length_take, List.length_drop]
  omega
theorem k_law_drawn_text {f : Addr} {fd : FuncData} (G : Names mg) (F : At K mg "_law_drawn_text" st_law_drawn_text f fd) (b : Binds K fd ["_law_deck_here", "_law_letters_here", "_law_most"] []) (k1 : Keeps P w K mg base 1 "_law_draw" ["_law_deck_here", "_law_many"] sp_law_draw)
    (k2 : Keeps P w K mg base 2 "_law_pick" ["_law_deck_here", "_law_some"] sp_law_pick) : Keeps P w K mg base 3 "_law_drawn_text" ["_law_deck_here", "_law_letters_here", "_law_most"] sp_law_drawn_text := by
  refine F.keeps sc_law_drawn_text b (fun vs H Q E h => ?_) (fun cdv A outer s H vs Q E hr h => ?_)
  · obtain ⟨d, l, x, rfl, _⟩ := h
    rfl
  obtain ⟨d, l, x, rfl, dk, hx0, hx6, q⟩ := h
  have nd := sc_law_drawn_text.nd
  have hr1 : Room 1 _ := hr.mono (by decide)
  refine ⟨_, pss_cons (ps_set (i := 3) nd rfl (.inl rfl) pe_str)
    (pss_cons (ps_for PassesOwn.never rfl (pi_range1 (by rfl) (G.blt _ (by decide)) (pa_cons (pe_def k1 hr1 (by rfl) (pa_cons (pv 0) (pa_cons pe_int pa_nil))) pa_nil)) (pg_name (i := 4) nd rfl (.inl rfl))
      (pss_cons (ps_set (i := 5) nd rfl (.inl rfl) (pe_def k2 hr (by rfl) (pa_cons (pv 0) (pa_cons (pe_callTy (cr_listS rfl) (by rfl) (G.blt _ (by decide)) boot_list (pa_cons (pv 1) pa_nil)) pa_nil))))
      (pss_cons (ps_if (PW.pt (pw_and (pt_cmpR op_ne (pv 3) pe_str (nomark _)) (pw_and1 (pt_cmpR op_eq (pe_def k1 hr1 (by rfl) (pa_cons (pv 0) (pa_cons pe_int pa_nil))) pe_int (nomark _)))))
        (pss_cons (ps_set (i := 6) nd rfl (.inl rfl) (pe_def k1 hr1 (by rfl) (pa_cons (pv 0) (pa_cons (pe_callB call_len_str (by rfl) (G.blt _ (by decide)) PySem.boot_len (pa_cons (pv 3) pa_nil)) pa_nil))))
        (pss_one (ps_set (i := 5) nd rfl (.inl rfl) (pe_slice sl_str (pv 3) (po_some (pv 6)) (po_some (pe_op op_add (pv 6) pe_int)))))) pss_nil)
      (pss_one (ps_if (pt_cmpR op_le (pe_op op_add (pe_callB call_len_str (by rfl) (G.blt _ (by decide)) PySem.boot_len (pa_cons (pv 3) pa_nil)) (pe_callB call_len_str (by rfl) (G.blt _ (by decide)) PySem.boot_len (pa_cons (pv 5) pa_nil))) (pv 2) (nomark _))
        (pss_one (ps_set (i := 3) nd rfl (.inl rfl) (pe_op op_add_str (pv 3) (pv 5)))) pss_nil)))))
    (pss_one (ps_ret (pv 3)))), ?_⟩
  refine ⟨_, rfl, d, l, 12, rfl, dk, by decide, by decide, fun H2 r dk2 r2 hr2 => ⟨_, rfl, by omega, by omega, ?_⟩⟩
  refine for_range (lo := 0) (n := ((r : Nat) : Int).toNat) (fun i σ H3 => ∃ y y4 y5 y6, σ = [some (.ref d), some (sV x), some (.int 60), some (sV y), y4, y5, y6] ∧ Deck H3 d l ∧ Rest d l H H3 ∧ y.length ≤ 60 ∧ ∀ c ∈ y, c ∈ x)
    ⟨[], _, _, _, by rw [sV_nil]; rfl, dk2, r2, by decide, fun c hc => nomatch hc⟩ (fun i σ H3 hi ⟨y, y4, y5, y6, es, dk3, r3, hl, hy⟩ => ?_) fun σ H3 ⟨y, y4, y5, y6, es, dk3, r3, hl, hy⟩ => ?_
  · subst es
    refine ⟨_, rfl, _, rfl, sT x, rfl, by rw [sT_len]; exact line_small (by omega), fun p np => ?_⟩
    obtain ⟨pd, pl⟩ := dk3.off np
    have s4 := Same.new (o := .lst (signsV (sT x))) np
    have hpos : 1 ≤ x.length := by
      cases x with
      | nil => exact absurd rfl hx0
      | cons a x => simp
    refine ⟨d, l, p, signsV (sT x), rfl, dk3.same s4, upd_same, pd, pl, ?_, ?_, fun H5 v dk5 r5 hv => ?_⟩
    · rw [signsV_sT, List.length_map]
      exact hpos
    · rw [signsV_sT, List.length_map]
      omega
    rw [signsV_sT] at hv
    obtain ⟨c, hc, rfl⟩ := List.mem_map.mp hv
    have r6 := r3.trans ((Same.rest s4).trans r5)
    have hyz : (sT y).length ≤ sizeLine := by rw [sT_len]; exact line_small (by omega)
    -- behind the if: a part that is drawn
    have last : ∀ (H6 : Hp) (pt : List Nat) (y6 : Option V), Deck H6 d l → Rest d l H H6 → pt.length ≤ 1000 → (∀ c ∈ pt, c ∈ x) →
        (tIfS (tTest (tOp (rI0 fun i j => .bl (decide (i ≤ j))) (tOp (rI0 fun i j => .int (i + j)) (tCB (fun xs H Q => ∃ z, xs = [.str z] ∧ z.length ≤ sizeLine ∧ Q (.int z.length) H) (tCons (tVar 3) tNil)) (tCB (fun xs H Q => ∃ z, xs = [.str z] ∧ z.length ≤ sizeLine ∧ Q (.int z.length) H) (tCons (tVar 5) tNil))) (tVar 2)))
          (tAsg (tOp (fun x y H Q => ∃ i j, x = .str i ∧ y = .str j ∧ i.length + j.length ≤ sizeLine ∧ Q (.str (i ++ j)) H) (tVar 3) (tVar 5)) (gName 3)) (fun D σ H => D.nx σ H))
          { nx := fun σ H3 => ∃ y y4 y5 y6, σ = [some (.ref d), some (sV x), some (.int 60), some (sV y), y4, y5, y6] ∧ Deck H3 d l ∧ Rest d l H H3 ∧ y.length ≤ 60 ∧ ∀ c ∈ y, c ∈ x, rt := Q } [some (.ref d), some (sV x), some (.int 60), some (sV y), some (.int (0 + (i : Int))), some (sV pt), y6] H6 := fun H6 pt z6 dk6 r6 hpt hin => by
      have hpz : (sT pt).length ≤ sizeLine := by rw [sT_len]; exact line_small (by omega)
      refine ⟨_, rfl, sT y, rfl, hyz, _, rfl, sT pt, rfl, hpz, _, _, rfl, rfl, _, rfl, _, _, rfl, rfl, _, rfl, ite2 (fun hh => ?_) (fun hh => ?_)⟩
      · have h60 : y.length + pt.length ≤ 60 := by
          have := of_decide_eq_true hh
          rw [sT_len, sT_len] at this
          omega
        refine ⟨_, rfl, _, rfl, sT y, sT pt, rfl, rfl, by rw [sT_len, sT_len]; exact line_small (by omega), y ++ pt, some (.int (0 + (i : Int))), some (sV pt), z6, ?_, dk6, r6, by rw [List.length_append]; exact h60, fun c hc => (List.mem_append.mp hc).elim (hy c) (hin c)⟩
        rw [sT_app]
        rfl
      · exact ⟨y, _, _, _, rfl, dk6, r6, hl, hy⟩
    by_cases hy0 : y = []
    · subst hy0
      refine ⟨_, rfl, rfl, _, rfl, ?_⟩
      rw [decide_eq_true (show sV [] = .str (Str.ofString "") from sV_nil)]
      refine iteF (iteF ?_)
      exact last H5 [c] _ dk5 r6 (by simp) fun e he => List.mem_singleton.mp he ▸ hc
    · refine ⟨_, rfl, rfl, _, rfl, ?_⟩
      rw [decide_eq_false (show ¬ sV y = .str (Str.ofString "") from fun z => hy0 (by
        rw [← sV_nil] at z
        injection z with z
        exact sT_inj z))]
      refine iteT ⟨_, rfl, d, l, 3, rfl, dk5, by decide, by decide, fun H7 r7 dk7 rs7 hr7 => ⟨rfl, _, rfl, ite2 (fun _ => ?_) (fun _ => ?_)⟩⟩
      · have hyp : 1 ≤ y.length := by
          cases y with
          | nil => exact absurd rfl hy0
          | cons a y => simp
        refine ⟨_, rfl, _, rfl, sT y, rfl, hyz, d, l, y.length, by rw [sT_len]; rfl, dk7, hyp, by omega, fun H8 r8 dk8 rs8 hr8 => ?_⟩
        obtain ⟨pt, e1, e2, e3⟩ := cutS_sT y (some (r8 : Int)) (some ((r8 : Int) + 5))
        refine ⟨_, rfl, _, rfl, _, rfl, _, rfl, r8, 5, rfl, rfl, _, rfl, sT y, rfl, hyz, ?_⟩
        rw [e1]
        exact last H8 pt _ dk8 (r6.trans (rs7.trans rs8)) (by omega) fun c hc => hy c (e3 c hc)
      · exact last H7 [c] _ dk7 (r6.trans rs7) (by simp) fun e he => List.mem_singleton.mp he ▸ hc
  · subst es
    exact ⟨_, rfl, q H3 y dk3 r3 hl hy⟩
end
end TK
end
section
set_option Elab.async false
set_option linter.all false
set_option maxRecDepth 100000
set_option maxHeartbeats 8000000
/-! The law's own defs, fourth part: merged, tokens. -/
namespace TK
open PySem PySem.Spec L2
open PyProof.Rows TL
section
variable {P : Program} {w : World} {K : PySem.W.Frag} {mg : Str → Option Value} {base : Heap}
/-! ### _law_merged -/
abbrev st_law_merged : Stmt := topS 42
theorem sc_law_merged : FnScope ["_law_tokens_here", "_law_pair", "_law_new", "_law_found", "_law_at"] ["_law_tokens_here", "_law_pair", "_law_new"] (defScope st_law_merged) := ⟨rfl, rfl, rfl, by decide +kernel, rfl, by decide +kernel, by decide +kernel⟩
theorem k_law_merged {f : Addr} {fd : FuncData} (G : Names mg) (F : At K mg "_law_merged" st_law_merged f fd) (b : Binds K fd ["_law_tokens_here", "_law_pair", "_law_new"] []) : Keeps P w K mg base 1 "_law_merged" ["_law_tokens_here", "_law_pair", "_law_new"] (sp_merged K) := by
  refine F.keeps sc_law_merged b (fun vs H Q E h => ?_) (fun cdv A outer s H vs Q E hr h => ?_)
  · obtain ⟨t, b, r, p, n, rfl, _⟩ := h
    rfl
  obtain ⟨t, b, r, p, n, rfl, hL, hB, hlen, q⟩ := h
  have nd := sc_law_merged.nd
  refine ⟨_, pss_cons (ps_par (i := 3) (j := 4) rfl nd rfl rfl (by decide) rfl rfl (pa_cons (pe_lst pa_nil) (pa_cons pe_int pa_nil)) (by rfl))
    (pss_cons (ps_while PassesOwn.never (pt_cmpR op_lt (pv 4) (pe_callB call_len_seq (by rfl) (G.blt _ (by decide)) PySem.boot_len (pa_cons (pv 0) pa_nil)) (nomark _))
      (pss_one (ps_if (PW.pt (pw_and (pt_cmpR op_lt (pe_op op_add (pv 4) pe_int) (pe_callB call_len_seq (by rfl) (G.blt _ (by decide)) PySem.boot_len (pa_cons (pv 0) pa_nil)) (nomark _))
          (pw_and1 (pt_cmpR (op_eqD hr.units) (pe_tup (pa_cons (pe_ix ix_list (pv 0) (pv 4) (fun _ _ => rfl)) (pa_cons (pe_ix ix_list (pv 0) (pe_op op_add (pv 4) pe_int) (fun _ _ => rfl)) pa_nil))) (pv 1) (nomark _)))))
        (pss_cons (ps_expr (pe_bm PySem.F.plainAttrs_list PySem.F.slot_list_append PySem.F.type_list_append mt_append (pv 3) (pa_cons (pv 2) pa_nil))) (pss_one (ps_set (i := 4) nd rfl (.inl rfl) (pe_op op_add (pv 4) pe_int))))
        (pss_cons (ps_expr (pe_bm PySem.F.plainAttrs_list PySem.F.slot_list_append PySem.F.type_list_append mt_append (pv 3) (pa_cons (pe_ix ix_list (pv 0) (pv 4) (fun _ _ => rfl)) pa_nil))) (pss_one (ps_set (i := 4) nd rfl (.inl rfl) (pe_op op_add (pv 4) pe_int)))))))
    (pss_one (ps_ret (pv 3)))), ?_⟩
  refine ⟨Nat.zero_le _, fun o no => ⟨_, _, rfl, ?_⟩⟩
  refine ⟨fun m σ H3 => ∃ (i : Nat) (acc : List Nat), σ = [some (.ref t), some (.ref b), some (nV n), some (.ref o), some (nV i)] ∧ i ≤ r.length ∧ m = r.length - i ∧ Same H H3 ∧ H3 o = some (.lst (rowV acc)) ∧ merge p n r = acc ++ merge p n (r.drop i) ∧ acc.length ≤ i,
    ⟨r.length, 0, [], rfl, Nat.zero_le _, rfl, Same.new no, upd_same, rfl, Nat.le_refl _⟩, ?_⟩
  rintro m σ H3 ⟨i, acc, rfl, hi, rfl, s3, eo, em, ha⟩
  have hL3 := s3.seq hL
  have hrl : (rowV r).length = r.length := by unfold rowV; rw [List.length_map]
  refine ⟨_, rfl, _, rfl, t, _, rfl, .inl hL3, _, _, rfl, rfl, _, rfl, ite2 (fun e => ?_) (fun e => ?_)⟩
  · have hlt : i < r.length := by
      have := of_decide_eq_true e
      rw [hrl] at this
      omega
    have dr : r.drop i = r[i] :: r.drop (i + 1) := List.drop_eq_getElem_cons hlt
    refine ⟨fun σ' H' => ∃ (i' : Nat) (acc' : List Nat), σ' = [some (.ref t), some (.ref b), some (nV n), some (.ref o), some (nV i')] ∧ i < i' ∧ i' ≤ r.length ∧ Same H H' ∧ H' o = some (.lst (rowV acc')) ∧ merge p n r = acc' ++ merge p n (r.drop i') ∧ acc'.length ≤ i',
      fun σ' H' ⟨i', acc', h1, h2, h3, h4⟩ => ⟨r.length - i', by omega, i', acc', h1, h3, rfl, h4⟩, ?_⟩
    refine ⟨_, rfl, i, 1, rfl, rfl, _, rfl, t, _, rfl, .inl hL3, _, _, rfl, rfl, _, rfl, ite2 (fun e2 => ?_) (fun e2 => ?_)⟩
    · have hlt2 : i + 1 < r.length := by
        have := of_decide_eq_true e2
        rw [hrl] at this
        omega
      have dr2 : r.drop (i + 1) = r[i + 1] :: r.drop (i + 2) := List.drop_eq_getElem_cons hlt2
      refine ⟨_, rfl, _, rfl, t, _, _, _, rfl, rfl, hL3, row_at hlt, _, rfl, _, rfl, i, 1, rfl, rfl, t, _, _, nV r[i + 1], rfl, rfl, hL3, row_at hlt2, by show 2 ≤ sizeLine; decide, fun u nu => ?_⟩
      have s5 := s3.trans (Same.new (o := .tup [nV r[i], nV r[i + 1]]) nu)
      have u0 : o ≠ u := ne_of_none eo nu
      have eo5 : (upd H3 u (.tup [nV r[i], nV r[i + 1]])) o = some (.lst (rowV acc)) := by
        rw [upd_ne u0]
        exact eo
      refine ⟨_, rfl, .tuple ([r[i], r[i + 1]].map nD), .tuple ([p.1, p.2].map nD), .tup (xs := rowV [r[i], r[i + 1]]) (.inl (.inl upd_same)) (dp_ints _), .tup (xs := rowV [p.1, p.2]) (Same.tup s5 hB) (dp_ints _), shaped_ints _ (Nat.le_refl _), shaped_ints _ (Nat.le_refl _), _, rfl, ?_⟩
      show if PyData.eqvAll _ _ = true then _ else _
      rw [eqv_ints]
      refine ite2 (fun hh => ?_) (fun hh => ?_)
      · have hh2 : [r[i], r[i + 1]] = [p.1, p.2] := of_decide_eq_true hh
        have h3 : r[i] = p.1 ∧ r[i + 1] = p.2 := by
          injection hh2 with h1 h2
          injection h2 with h2 _
          exact ⟨h1, h2⟩
        refine ⟨_, rfl, .inl ⟨rfl, _, .inl (.inl eo5)⟩, _, rfl, o, _, _, rfl, rfl, eo5, ?_, ?_⟩
        · unfold rowV
          rw [List.length_map]
          exact line_lt (by omega)
        refine ⟨_, rfl, i, 2, rfl, rfl, i + 2, acc ++ [n], ?_, by omega, by omega, fun x z ex => ?_, ?_, ?_, by simp; omega⟩
        · show [_, _, _, _, some (V.int ((i : Int) + 2))] = _
          rfl
        · rw [upd_ne (ne_of_none ex no)]
          exact s5 _ _ ex
        · rw [upd_same]
          unfold rowV
          rw [List.map_append]
          rfl
        · rw [em, dr, dr2, merge_hit h3, List.append_assoc]
          rfl
      · have hh2 : ¬ (r[i] = p.1 ∧ r[i + 1] = p.2) := fun z => hh (decide_eq_true (by rw [z.1, z.2]))
        refine ⟨_, rfl, .inl ⟨rfl, _, .inl (.inl eo5)⟩, _, rfl, _, rfl, t, _, _, _, rfl, rfl, s5.seq hL, row_at hlt, o, _, _, rfl, rfl, eo5, ?_, ?_⟩
        · unfold rowV
          rw [List.length_map]
          exact line_lt (by omega)
        refine ⟨_, rfl, i, 1, rfl, rfl, i + 1, acc ++ [r[i]], ?_, by omega, by omega, fun x z ex => ?_, ?_, ?_, by simp; omega⟩
        · show [_, _, _, _, some (V.int ((i : Int) + 1))] = _
          rfl
        · rw [upd_ne (ne_of_none ex no)]
          exact s5 _ _ ex
        · rw [upd_same]
          unfold rowV
          rw [List.map_append]
          rfl
        · rw [em, dr, dr2, merge_miss hh2, List.append_assoc]
          rfl
    · have hlast : r.length = i + 1 := by
        have h1 : ¬ (((i : Int) + 1) < ((rowV r).length : Int)) := fun z => e2 (decide_eq_true z)
        rw [hrl] at h1
        omega
      have dn : r.drop (i + 1) = [] := by rw [← hlast]; exact List.drop_length
      refine ⟨_, rfl, .inl ⟨rfl, _, .inl (.inl eo)⟩, _, rfl, _, rfl, t, _, _, _, rfl, rfl, hL3, row_at hlt, o, _, _, rfl, rfl, eo, ?_, ?_⟩
      · unfold rowV
        rw [List.length_map]
        exact line_lt (by omega)
      refine ⟨_, rfl, i, 1, rfl, rfl, i + 1, acc ++ [r[i]], ?_, by omega, by omega, fun x z ex => ?_, ?_, ?_, by simp; omega⟩
      · show [_, _, _, _, some (V.int ((i : Int) + 1))] = _
        rfl
      · rw [upd_ne (ne_of_none ex no)]
        exact s3 _ _ ex
      · rw [upd_same]
        unfold rowV
        rw [List.map_append]
        rfl
      · rw [em, dr, dn, List.append_assoc]
        rfl
  · have hge : i = r.length := by
      have h1 : ¬ ((i : Int) < ((rowV r).length : Int)) := fun z => e (decide_eq_true z)
      rw [hrl] at h1
      omega
    subst hge
    rw [List.drop_length, show merge p n [] = [] from rfl, List.append_nil] at em
    rw [← em] at eo
    exact ⟨_, rfl, q H3 o s3 no eo⟩
/-! ### _law_tokens -/
abbrev st_law_tokens : Stmt := topS 43
theorem sc_law_tokens : FnScope ["_law_vocabulary", "_law_text", "_law_word", "_law_letters_here", "_law_merges", "_law_found", "_law_at", "_law_pair", "_law_x"] ["_law_vocabulary", "_law_text"] (defScope st_law_tokens) := ⟨rfl, rfl, rfl, by decide +kernel, rfl, by decide +kernel, by decide +kernel⟩
def sp_law_tokens (K : PySem.W.Frag) : Sp := fun vs H Q _ => ∃ (a : Addr) (ls : List Nat) (ms : List P2) (x : List Nat), vs = [.ref a, sV x] ∧ Voc K H a ls ms ∧ ls.length ≤ 6 ∧ x.length ≤ 1000 ∧ (∀ c ∈ x, c ∈ ls) ∧ ∀ H' t, Same H H' → SqT K H' t (rowV (tokens ls ms x)) → Q (.ref t) H'
theorem k_law_tokens {f : Addr} {fd : FuncData} (G : Names mg) (F : At K mg "_law_tokens" st_law_tokens f fd) (b : Binds K fd ["_law_vocabulary", "_law_text"] []) (k1 : Keeps P w K mg base 1 "_law_merged" ["_law_tokens_here", "_law_pair", "_law_new"] (sp_merged K)) :
    Keeps P w K mg base 2 "_law_tokens" ["_law_vocabulary", "_law_text"] (sp_law_tokens K) := by
  refine F.keeps sc_law_tokens b (fun vs H Q E h => ?_) (fun cdv A outer s H vs Q E hr h => ?_)
  · obtain ⟨a, ls, ms, x, rfl, _⟩ := h
    rfl
  obtain ⟨a, ls, ms, x, rfl, ⟨m, bs, hV, hM, hP⟩, l6, hl, hx, q⟩ := h
  have nd := sc_law_tokens.nd
  refine ⟨_, pss_cons (ps_asg (pv 0) (pg_tup rfl (pgs_cons (pg_name (i := 2) nd rfl (.inl rfl)) (pgs_cons (pg_name (i := 3) nd rfl (.inr rfl)) (pgs_cons (pg_name (i := 4) nd rfl (.inl rfl)) pgs_nil)))))
    (pss_cons (ps_setLc (i := 5) (own := [("_law_x", 8)]) (g := gName 8) (tt := tYes) rfl nd rfl rfl (sw_true rfl rfl rfl (by decide +kernel)) (pi_str (pv 1)) (blkOk_by (N := ["_law_vocabulary", "_law_text", "_law_word", "_law_letters_here", "_law_merges", "_law_found", "_law_at", "_law_pair", "_law_x"]) (sc := defScope st_law_tokens) (by decide +kernel))
        (fun _ _ _ _ _ => pg_name (i := 8) nd rfl (.inl rfl)) (fun _ _ _ _ _ => pts_nil) (fun _ _ _ _ _ => pe_op op_add pe_int (pe_m1 PySem.F.slot_str_index PySem.F.type_str_index mt_sindex (pv 3) (pv 8))))
    (pss_cons (ps_for PassesOwn.never rfl (pi_enumT (by rfl) (G.blt _ (by decide)) (pa_cons (pv 4) pa_nil)) (pg_tup rfl (pgs_cons (pg_name (i := 6) nd rfl (.inl rfl)) (pgs_cons (pg_name (i := 7) nd rfl (.inl rfl)) pgs_nil)))
      (pss_one (ps_set (i := 5) nd rfl (.inl rfl) (pe_def k1 hr (by rfl) (pa_cons (pv 5) (pa_cons (pv 7) (pa_cons (pe_op op_add (pe_op op_add pe_int (pe_callB call_len_str (by rfl) (G.blt _ (by decide)) PySem.boot_len (pa_cons (pv 3) pa_nil))) (pv 6)) pa_nil)))))))
    (pss_one (ps_ret (pe_callTy call_tuple_of (by rfl) (G.blt _ (by decide)) boot_tuple (pa_cons (pv 5) pa_nil)))))), ?_⟩
  refine ⟨_, rfl, a, _, rfl, hV, rfl, _, _, rfl, _, _, rfl, _, _, rfl, rfl, ?_⟩
  refine ⟨_, rfl, sT x, rfl, fun D hD => ?_⟩
  have hxl : (sT x).cps.size = x.length := sT_len x
  refine lc_map (walk_str (z := sT x)) (rowV (row0 ls x)) (by unfold rowV row0; rw [hxl]; simp) (by rw [hxl]; omega) hD (fun _ _ => trivial) (fun _ => rfl) (fun i v H2 H3 y hy s2 Y R k => ?_) fun H2 s2 e2 => ?_
  · obtain ⟨rfl, c, hc, rfl⟩ := Y
    have hc2 : x[i]? = some c := by
      have hc2 : x.toArray[i]? = some c := hc
      simpa using hc2
    have hm : c ∈ ls := hx c (List.mem_of_getElem? hc2)
    unfold rowV row0 at hy
    rw [List.getElem?_map, List.getElem?_map, hc2] at hy
    have ey : nV (letterTok ls c) = y := Option.some.inj hy
    obtain ⟨rest, ho⟩ := occ_idx hm
    refine ⟨_, rfl, ⟨_, rfl⟩, _, rfl, sT ls, ⟨#[c]⟩, _, rest, rfl, rfl, ho, 1, _, rfl, rfl, ?_⟩
    have e3 : V.int (1 + ((ls.idxOf c : Nat) : Int)) = y := by
      rw [← ey]
      unfold nV letterTok
      congr 1
    show R (V.int (1 + ((ls.idxOf c : Nat) : Int))) H3
    rw [e3]
    exact k _ (Same.refl _)
  · have hbl : (bs.map V.ref).length = ms.length := by rw [List.length_map, hP.1]
    refine ⟨_, rfl, m, _, rfl, Same.tup s2 hM, ?_⟩
    refine for_it walk_enumT (fun i σ H3 => ∃ o y6 y7 y8, σ = [some (.ref a), some (sV x), some (.str "vocabulary"), some (sV ls), some (.ref m), some (.ref o), y6, y7, y8] ∧ Same H H3 ∧ H o = none ∧ H3 o = some (.lst (rowV (mergesFrom (1 + ls.length) (ms.take i) (row0 ls x)))))
      ⟨D, _, _, _, rfl, s2, hD, e2⟩ (fun i σ H3 _ ⟨_, _, _, _, _, s3, _⟩ => Same.tup s3 hM) (fun i v σ H3 H4 hi ⟨o, y6, y7, y8, es, s3, no, eo⟩ Y => ?_) fun σ H3 ⟨o, y6, y7, y8, es, s3, no, eo⟩ => ?_
    · subst es
      obtain ⟨T, x1, x2, rfl, nT, rfl, e1, e2'⟩ := Y
      have ex1 : V.int (i : Nat) = x1 := Option.some.inj e1
      subst ex1
      obtain ⟨b, hb, rfl⟩ := ref_at e2'
      have hi2 : i < ms.length := by rw [← hbl]; exact hi
      have hm : ms[i]? = some ms[i] := List.getElem?_eq_getElem hi2
      have s4 := s3.trans (Same.new (o := .tup [.int (i : Nat), .ref b]) nT)
      have eo4 : (upd H3 T (.tup [.int (i : Nat), .ref b])) o = some (.lst (rowV (mergesFrom (1 + ls.length) (ms.take i) (row0 ls x)))) := by
        rw [upd_ne (ne_of_none eo nT)]
        exact eo
      refine ⟨T, _, rfl, .inl (.inl upd_same), rfl, _, _, rfl, _, _, rfl, rfl, ?_⟩
      refine ⟨_, rfl, _, rfl, _, rfl, sT ls, rfl, by rw [sT_len]; exact line_small (by omega), _, _, rfl, rfl, _, rfl, _, _, rfl, rfl, o, b, _, ms[i], 1 + ls.length + i, ?_, .inl (.inl eo4), Same.tup s4 (hP.2 i b _ hb hm), ?_, fun H5 o2 s5 no2 eo2 => ?_⟩
      · show [V.ref o, V.ref b, V.int (1 + ((sT ls).length : Int) + (i : Int))] = [V.ref o, V.ref b, V.int ((1 + ls.length + i : Nat) : Int)]
        rw [sT_len]
        congr 3
      · refine Nat.le_trans (mergesFrom_len _ _ _) ?_
        unfold row0
        rw [List.length_map]
        exact hl
      · refine ⟨o2, _, _, _, rfl, s4.trans s5, s4.free no2, ?_⟩
        rw [eo2, mergesFrom_take hm]
    · subst es
      have et : ms.take (bs.map V.ref).length = ms := by rw [hbl, List.take_length]
      rw [et] at eo
      exact ⟨_, rfl, o, _, rfl, .inl ⟨.inl (.inl eo), fun t nt => q _ t (s3.trans (Same.new nt)) (.inl (.inl upd_same))⟩⟩
end
end TK
end
section
set_option Elab.async false
set_option linter.all false
set_option maxRecDepth 100000
set_option maxHeartbeats 8000000
/-! The law's own defs, fifth part: what its training stands on. -/
namespace TK
open PySem PySem.Spec L2
open PyProof.Rows TL
theorem Same.unlock {H H' : Hp} {d : Addr} {u : HO} {od : Obj} (h : H d = some u) (s : Same (upd H d (.frz od u)) H') : Same H (upd H' d u) := fun b o e => by
  by_cases hb : b = d
  · rw [hb] at e ⊢
    rw [upd_same, ← h, e]
  · rw [upd_ne hb]
    exact s b o (by rw [upd_ne hb]; exact e)
theorem offT {K : PySem.W.Frag} {H : Hp} {a S : Addr} {xs ys : List V} {o : HO} (h : SqT K H a xs) (e : H S = some (.lst ys)) : SqT K (upd H S o) a xs := by
  rcases h with (h | ⟨ob, h⟩) | h
  · exact .inl (.inl (by rw [upd_ne (ne_of h e fun z => nomatch z)]; exact h))
  · exact .inl (.inr ⟨ob, by rw [upd_ne (ne_of h e fun z => nomatch z)]; exact h⟩)
  · exact .inr h
theorem offL {K : PySem.W.Frag} {H : Hp} {a S : Addr} {xs ys : List V} {o : HO} (h : SqL K H a xs) (e : H S = some (.lst ys)) (ne : xs ≠ ys) : SqL K (upd H S o) a xs := by
  rcases h with (h | ⟨ob, h⟩) | h
  · exact .inl (.inl (by rw [upd_ne (ne_of h e fun z => ne (by injection z))]; exact h))
  · exact .inl (.inr ⟨ob, by rw [upd_ne (ne_of h e fun z => nomatch z)]; exact h⟩)
  · exact .inr h
theorem pcs_head (ls : List Nat) (ms : List P2) : ∃ r, pcs ls ms = [] :: r := by
  obtain ⟨r, e⟩ := pcs_pre ls [] ms
  rw [List.nil_append, pcs_nil, pcs0] at e
  exact ⟨_, e⟩
theorem row_no_pcs (r : List Nat) (ls : List Nat) (ms : List P2) : rowV r ≠ (pcs ls ms).map sV := by
  obtain ⟨t, e⟩ := pcs_head ls ms
  rw [e]
  cases r with
  | nil => exact fun z => nomatch z
  | cons x r =>
    intro z
    have z2 : (nV x :: rowV r : List V) = sV [] :: t.map sV := z
    injection z2 with z3 _
    cases z3
theorem ref_no_pcs (rs : List Addr) (ls : List Nat) (ms : List P2) : rs.map V.ref ≠ (pcs ls ms).map sV := by
  obtain ⟨t, e⟩ := pcs_head ls ms
  rw [e]
  cases rs with
  | nil => exact fun z => nomatch z
  | cons x r =>
    intro z
    have z2 : (V.ref x :: r.map V.ref : List V) = sV [] :: t.map sV := z
    injection z2 with z3 _
    cases z3
/-! ### the pairs whose piece is new -/
def FA (rows : List (List Nat)) (f : List (List Nat)) : List P2 := (allAdj rows).filter fun p => decide (fresh f p)
theorem FA_mem {rows : List (List Nat)} {f : List (List Nat)} {p : P2} : p ∈ FA rows f ↔ p ∈ allAdj rows ∧ fresh f p := by
  unfold FA
  rw [List.mem_filter, decide_eq_true_eq]
theorem FA_count {rows : List (List Nat)} {f : List (List Nat)} {p : P2} (h : fresh f p) : (FA rows f).count p = cnt rows p := by
  unfold FA cnt
  exact List.count_filter (decide_eq_true h)
theorem FA_take {rows : List (List Nat)} {f : List (List Nat)} {i : Nat} {row : List Nat} (h : rows[i]? = some row) : FA (rows.take (i + 1)) f = FA (rows.take i) f ++ (adj row).filter fun p => decide (fresh f p) := by
  unfold FA
  rw [allAdj_take h, List.filter_append]
theorem FA_le (rows : List (List Nat)) (f : List (List Nat)) : (FA rows f).length ≤ (allAdj rows).length := List.length_filter_le _ _
theorem best_no {rows : List (List Nat)} {f : List (List Nat)} {m : Int} (hm : ∀ q, fresh f q → ((cnt rows q : Nat) : Int) ≤ m) (h : m < 2) : best rows f = none :=
  bestC_eq (o := none) fun q hq => by
    have := hm q hq
    omega
theorem best_yes {rows : List (List Nat)} {f : List (List Nat)} {m : Int} {p : P2} (hm : ∀ q, fresh f q → ((cnt rows q : Nat) : Int) ≤ m) (h2 : 2 ≤ m) (hp : fresh f p) (hc : ((cnt rows p : Nat) : Int) = m)
    (hl : ∀ q, fresh f q → ((cnt rows q : Nat) : Int) = m → pairLe p q) : best rows f = some p :=
  bestC_eq (o := some p) ⟨hp, by omega, fun q hq => by
    by_cases e : ((cnt rows q : Nat) : Int) = m
    · exact .inr ⟨by omega, hl q hq e⟩
    · have := hm q hq
      exact .inl (by omega)⟩
/-! ### a training under way -/
structure TrS (K : PySem.W.Frag) (H H3 : Hp) (ls : List Nat) (ts : List (List Nat)) (n : Nat) (ms : List P2) (rows : List (List Nat)) (S M R : Addr) (bs rs : List Addr) : Prop where
  sm : Same H H3
  nS : H S = none
  sS : H3 S = some (.lst ((pcs ls ms).map sV))
  sM : SqT K H3 M (bs.map V.ref)
  sB : Prs K H3 bs ms
  sR : SqL K H3 R (rs.map V.ref)
  sA : RowsAt K H3 rs rows
  ok : StOk ls ms rows
  rb : RB rows
  le : ms.length ≤ min n 10
  tr : trained ls ts n = train ls (min n 10 - ms.length) ms rows
theorem TrS.same {K : PySem.W.Frag} {H H3 H4 : Hp} {ls : List Nat} {ts : List (List Nat)} {n : Nat} {ms : List P2} {rows : List (List Nat)} {S M R : Addr} {bs rs : List Addr} (t : TrS K H H3 ls ts n ms rows S M R bs rs) (s : Same H3 H4) :
    TrS K H H4 ls ts n ms rows S M R bs rs :=
  ⟨t.sm.trans s, t.nS, s _ _ t.sS, Same.tup s t.sM, t.sB.same s, s.seq t.sR, t.sA.same s, t.ok, t.rb, t.le, t.tr⟩
/-- .. behind some.append(..) -/
theorem TrS.grown {K : PySem.W.Frag} {H H3 : Hp} {ls : List Nat} {ts : List (List Nat)} {n : Nat} {ms : List P2} {rows : List (List Nat)} {S M R : Addr} {bs rs : List Addr} (t : TrS K H H3 ls ts n ms rows S M R bs rs) (o : HO) :
    Same H (upd H3 S o) ∧ SqT K (upd H3 S o) M (bs.map V.ref) ∧ Prs K (upd H3 S o) bs ms ∧ SqL K (upd H3 S o) R (rs.map V.ref) ∧ RowsAt K (upd H3 S o) rs rows := by
  refine ⟨fun b z e => ?_, offT t.sM t.sS, ⟨t.sB.1, fun i b m h1 h2 => offT (t.sB.2 i b m h1 h2) t.sS⟩, offL t.sR t.sS (ref_no_pcs _ _ _), ⟨t.sA.1, fun i r row h1 h2 => offL (t.sA.2 i r row h1 h2) t.sS (row_no_pcs _ _ _)⟩⟩
  rw [upd_ne (ne_of_none e t.nS)]
  exact t.sm _ _ e
/-- a list of those keys (pairs) that a test keeps -/
theorem lc_keys {d : Addr} {od : Obj} {ps : List P2} {g : P2 → V} {k : Nat} {tt : TT} {te : TE} {vs : List Nat} {σ : L2.St} {H1 : Hp} {D : Addr} {Qd : Hp → Prop} (cond : P2 → Bool) (hz : ps.length ≤ 1000000) (hD : H1 D = none)
    (hd0 : H1 d = some (.frz od (.dT (ps.map fun p => (kk p, g p))))) (hw : ∀ x, wipe ((wipe σ vs).set k (some x)) vs = wipe σ vs)
    (ht : ∀ (q : Addr) p H, p ∈ ps → Same H1 H → H q = some (.tup (pairV p)) → ∀ Q : Bool → Hp → Prop, Q (cond p) H → tt ((wipe σ vs).set k (some (.ref q))) H Q)
    (he : ∀ x H, ∀ Q : VK, Q x H → te ((wipe σ vs).set k (some x)) H Q)
    (hd : ∀ H (qs : List Addr), Same H1 H → H D = some (.lst (qs.map V.ref)) → Paired (fun (p : P2) (q : Addr) => H q = some (.tup (pairV p))) (ps.filter cond) qs → Qd H) :
    ∃ W : Nat → Nat → Hp → Prop, (∃ m, W 0 m (upd H1 D (.lst []))) ∧ ∀ i m H, W i m H →
      ((Itkt d od (ps.map fun p => (kk p, g p))).stop i H ∧ Qd H) ∨ ((Itkt d od (ps.map fun p => (kk p, g p))).go i H ∧ ∃ Nx : Hp → Prop, (∀ H', Nx H' → ∃ m', m' < m ∧ W (i + 1) m' H') ∧ ∀ x H', (Itkt d od (ps.map fun p => (kk p, g p))).yld i H x H' → gName k x (wipe σ vs) H' fun σ2 H2 => wipe σ2 vs = wipe σ vs ∧ tt σ2 H2 fun b H3 =>
        if b = true then te σ2 H3 fun y H4 => ∃ acc, H4 D = some (.lst acc) ∧ acc.length < sizeLine ∧ Nx (upd H4 D (.lst (acc ++ [y]))) else Nx H3) := by
  refine lc_it walk_keysT (fun i H => Same H1 H ∧ ∃ qs : List Addr, H D = some (.lst (qs.map V.ref)) ∧ qs.length ≤ i ∧ Paired (fun (p : P2) (q : Addr) => H q = some (.tup (pairV p))) ((ps.take i).filter cond) qs) ⟨Same.new hD, [], upd_same, Nat.le_refl _, .nil⟩ (fun i H _ h => h.1 _ _ hd0)
    (fun i x H H' hi h y => ?_) fun H h => ?_
  · obtain ⟨h1, qs, h2, hl, h3⟩ := h
    obtain ⟨rfl, ky, v, q, hk, rfl, hq⟩ := y
    rw [List.getElem?_map] at hk
    cases hp : ps[i]? with
    | none => rw [hp] at hk; cases hk
    | some p =>
      rw [hp] at hk
      have e1 : (kk p, g p) = (ky, v) := Option.some.inj hk
      injection e1 with e1 e2
      subst e1
      have hq2 : H' q = some (.tup (pairV p)) := hq
      have st : (ps.take (i + 1)).filter cond = if cond p = true then (ps.take i).filter cond ++ [p] else (ps.take i).filter cond := by
        rw [List.take_add_one, hp, List.filter_append]
        show _ ++ [p].filter cond = _
        cases hc : cond p with
        | true => simp [hc]
        | false => simp [hc]
      rw [List.length_map] at hi
      refine ⟨hw _, ht q p H' (List.mem_of_getElem? hp) h1 hq2 _ ?_⟩
      by_cases hc : cond p = true
      · simp only [hc, if_true] at st ⊢
        refine he _ _ _ ⟨_, h2, by rw [List.length_map]; exact line_lt (by omega), fun b o e => ?_, qs ++ [q], ?_, by rw [List.length_append, List.length_singleton]; omega, ?_⟩
        · rw [upd_ne (ne_of_none e hD)]
          exact h1 _ _ e
        · rw [upd_same, List.map_append]
          rfl
        · rw [st]
          have keep : ∀ (p : P2) (q : Addr), H' q = some (.tup (pairV p)) → upd H' D (.lst (qs.map V.ref ++ [V.ref q])) q = some (.tup (pairV p)) → True := fun _ _ _ _ => trivial
          have kp : ∀ {o : HO} (p : P2) (q : Addr), H' q = some (.tup (pairV p)) → upd H' D o q = some (.tup (pairV p)) := fun {o} p q e => by
            rw [upd_ne (ne_of e h2 fun z => nomatch z)]
            exact e
          exact Paired.snoc (Paired.mapP h3 fun p q e => kp p q e) (kp p q hq2)
      · have hc2 : cond p = false := by
          cases h : cond p with
          | true => exact absurd h hc
          | false => rfl
        simp only [hc2, Bool.false_eq_true, if_false] at st ⊢
        exact ⟨h1, qs, h2, by omega, by rw [st]; exact h3⟩
  · obtain ⟨h1, qs, h2, hl, h3⟩ := h
    rw [List.length_map, List.take_length] at h3
    exact hd H qs h1 h2 h3
theorem paired_left {H : Hp} : ∀ {ps : List P2} {qs : List Addr}, Paired (fun (p : P2) (q : Addr) => H q = some (.tup (pairV p))) ps qs → ∀ q ∈ qs, pOf H (.ref q) ∈ ps ∧ H q = some (.tup (pairV (pOf H (.ref q))))
  | _, _, .nil, q, hq => nomatch hq
  | _, _, .cons r t, q, hq => by
    rcases List.mem_cons.mp hq with e | e
    · subst e
      rw [pOf_at r]
      exact ⟨List.mem_cons_self, r⟩
    · obtain ⟨h1, h2⟩ := paired_left t q e
      exact ⟨List.mem_cons_of_mem _ h1, h2⟩
theorem paired_right {H : Hp} : ∀ {ps : List P2} {qs : List Addr}, Paired (fun (p : P2) (q : Addr) => H q = some (.tup (pairV p))) ps qs → ∀ p ∈ ps, ∃ q ∈ qs, pOf H (.ref q) = p
  | _, _, .nil, p, hp => nomatch hp
  | _, _, .cons r t, p, hp => by
    rcases List.mem_cons.mp hp with e | e
    · subst e
      exact ⟨_, List.mem_cons_self, pOf_at r⟩
    · obtain ⟨q, h1, h2⟩ := paired_right t p e
      exact ⟨q, List.mem_cons_of_mem _ h1, h2⟩
end TK
end
section
set_option Elab.async false
set_option linter.all false
set_option maxRecDepth 100000
set_option maxHeartbeats 8000000
/-! The law's own defs, sixth part: its training. -/
namespace TK
open PySem PySem.Spec L2
open PyProof.Rows TL
def rLen (K : PySem.W.Frag) : List V → Hp → VK → Prop := fun xs H Q => ∃ p ys, xs = [V.ref p] ∧ (SqL K H p ys ∨ SqT K H p ys) ∧ Q (.int ys.length) H
section
variable {P : Program} {w : World} {K : PySem.W.Frag} {mg : Str → Option Value} {base : Heap}
abbrev st_law_trained : Stmt := topS 44
abbrev nTr : List Str := ["_law_texts", "_law_n", "_law_letters_here", "_law_some", "_law_merges", "_law_rows", "_law_turn", "_law_counts", "_law_row", "_law_at", "_law_pair", "_law_most", "_law_text", "_law_x", "_law_it"]
theorem sc_law_trained : FnScope nTr ["_law_texts", "_law_n"] (defScope st_law_trained) := ⟨rfl, rfl, rfl, by decide +kernel, rfl, by decide +kernel, by decide +kernel⟩
def scText : Scope := { kind := .function, names := [(Str.ofString ".0", .local), (Str.ofString "_law_text", .local), (Str.ofString "_law_letters_here", .cell)], isGenerator := false, isCoroutine := false, more := [] }
theorem k_law_trained {f : Addr} {fd : FuncData} (G : Names mg) (F : At K mg "_law_trained" st_law_trained f fd) (b : Binds K fd ["_law_texts", "_law_n"] []) (k1 : Keeps P w K mg base 1 "_law_merged" ["_law_tokens_here", "_law_pair", "_law_new"] (sp_merged K)) :
    Keeps P w K mg base 2 "_law_trained" ["_law_texts", "_law_n"] (sp_trained_raw K) := by
  refine F.keeps sc_law_trained b (fun vs H Q E h => ?_) (fun cdv A outer s H vs Q E hr h => ?_)
  · obtain ⟨t, ts, ls, n, rfl, _⟩ := h
    rfl
  obtain ⟨t, ts, ls, n, rfl, hT, X, q⟩ := h
  have nd := sc_law_trained.nd
  have hu := hu_of hr
  refine ⟨_, (pss_cons (ps_set (i := 2) nd rfl (.inr rfl) (pe_join pe_str (pe_callB (cr_sortedS2 rfl) (by rfl) (G.blt _ (by decide)) (by decide +kernel) (pa_cons (pe_callTy (cr_setS rfl) (by rfl) (G.blt _ (by decide)) boot_set (pa_cons (pe_join pe_str (pv 0)) pa_nil)) pa_nil))))
      (pss_cons (ps_asg (pe_tup (pa_cons (pe_op op_cat (pe_lst (pa_cons pe_str pa_nil)) (pe_callTy (cr_listS rfl) (by rfl) (G.blt _ (by decide)) boot_list (pa_cons (pv 2) pa_nil))) (pa_cons (pe_tup pa_nil) pa_nil))) (pg_tup rfl (pgs_cons (pg_name (i := 3) nd rfl (.inr rfl)) (pgs_cons (pg_name (i := 4) nd rfl (.inl rfl)) pgs_nil))))
      (pss_cons (ps_setLc (i := 5) (own := [("_law_text", 12)]) (g := gName 12) (tt := tYes) rfl nd rfl rfl (sw_true rfl rfl rfl (by decide +kernel)) (pi_tup (pv 0)) (blkOk_by (N := nTr) (sc := defScope st_law_trained) (by decide +kernel)) (fun _ _ _ _ _ => (pg_name (i := 12) nd rfl (.inl rfl))) (fun _ _ _ _ _ => pts_nil) (fun _ _ _ _ _ => (pe_lc (own := [("_law_x", 13)]) (g := gName 13) (tt := tYes) rfl nd (pi_str (pv 12)) (blkOk_by (N := nTr) (sc := scText) (by decide +kernel)) (fun _ _ _ _ _ => (pg_name (i := 13) nd rfl (.inl rfl))) (fun _ _ _ _ _ => pts_nil) (fun _ _ _ _ _ => pe_op op_add pe_int (pe_m1 PySem.F.slot_str_index PySem.F.type_str_index mt_sindex (pv 2) (pv 13))))))
      (pss_cons (ps_for PassesOwn.never rfl (pi_range1 (by rfl) (G.blt _ (by decide)) (pa_cons (pe_callB (call_min2 rfl) (by rfl) (G.blt _ (by decide)) (by decide +kernel) (pa_cons (pv 1) (pa_cons pe_int pa_nil))) pa_nil)) (pg_name (i := 6) nd rfl (.inl rfl)) (pss_cons (ps_set (i := 7) nd rfl (.inr rfl) pe_dnewT)
      (pss_cons (ps_for PassesOwn.never rfl (pi_list (pv 5)) (pg_name (i := 8) nd rfl (.inl rfl)) (pss_one (ps_for PassesOwn.never rfl (pi_range1 (by rfl) (G.blt _ (by decide)) (pa_cons (pe_op op_sub (pe_callB call_len_seq (by rfl) (G.blt _ (by decide)) PySem.boot_len (pa_cons (pv 8) pa_nil)) pe_int) pa_nil)) (pg_name (i := 9) nd rfl (.inl rfl)) (pss_cons (ps_set (i := 10) nd rfl (.inr rfl) (pe_tup (pa_cons (pe_ix (r := rIxL K) ix_list (pv 8) (pv 9) (fun _ _ => rfl)) (pa_cons (pe_ix (r := rIxL K) ix_list (pv 8) (pe_op op_add (pv 9) pe_int) (fun _ _ => rfl)) pa_nil))))
      (pss_one (ps_if (pt_cmpR (r := rIn K true) op_notIn_seq (pe_op op_add_str (pe_ix (r := rIxL K) ix_list (pv 3) (pe_ix (r := rIxT K) ix_tup (pv 10) pe_int (fun _ _ => rfl)) (fun _ _ => rfl)) (pe_ix (r := rIxL K) ix_list (pv 3) (pe_ix (r := rIxT K) ix_tup (pv 10) pe_int (fun _ _ => rfl)) (fun _ _ => rfl))) (pv 3) (by rfl)) (pss_one (ps_dput hu (pv 7) (pv 10) (pe_op op_add (pe_dget2 hu (pv 7) (pv 10) pe_int ⟨rfl, rfl, rfl, rfl⟩) pe_int) rfl)) pss_nil))))))
      (pss_cons (ps_set (i := 11) nd rfl (.inr rfl) (pe_callB (cr_max rfl) (by rfl) (G.blt _ (by decide)) (by decide +kernel) (pa_cons (pe_op op_cat (pe_lock (pe_lc (own := [("_law_pair", 10)]) (g := gName 10) (tt := tYes) rfl nd (pi_keys (pv 7)) (blkOk_by (N := nTr) (sc := defScope st_law_trained) (by decide +kernel)) (fun _ _ _ _ _ => (pg_name (i := 10) nd rfl (.inl rfl))) (fun _ _ _ _ _ => pts_nil) (fun _ _ _ _ _ => pe_dget hu (pv 7) (pv 10) (fun _ _ => rfl)))) (pe_lst (pa_cons pe_int pa_nil))) pa_nil)))
      (pss_cons (ps_if (pt_cmpR op_lt (pv 11) pe_int (nomark _)) (pss_one ps_break) pss_nil)
      (pss_cons (ps_set (i := 10) nd rfl (.inr rfl) (pe_callB (cr_minP rfl hr.units) (by rfl) (G.blt _ (by decide)) (by decide +kernel) (pa_cons (pe_lock (pe_lc (own := [("_law_it", 14)]) (g := gName 14) rfl nd (pi_keys (pv 7)) (blkOk_by (N := nTr) (sc := defScope st_law_trained) (by decide +kernel)) (fun _ _ _ _ _ => (pg_name (i := 14) nd rfl (.inl rfl))) (fun _ _ _ _ _ => pts_one (pt_cmpR op_eq (pe_dget hu (pv 7) (pv 14) (fun _ _ => rfl)) (pv 11) (nomark _))) (fun _ _ _ _ _ => pv 14))) pa_nil)))
      (pss_cons (ps_expr (pe_bm PySem.F.plainAttrs_list PySem.F.slot_list_append PySem.F.type_list_append mt_append (pv 3) (pa_cons (pe_op op_add_str (pe_ix (r := rIxL K) ix_list (pv 3) (pe_ix (r := rIxT K) ix_tup (pv 10) pe_int (fun _ _ => rfl)) (fun _ _ => rfl)) (pe_ix (r := rIxL K) ix_list (pv 3) (pe_ix (r := rIxT K) ix_tup (pv 10) pe_int (fun _ _ => rfl)) (fun _ _ => rfl))) pa_nil)))
      (pss_cons (ps_set (i := 4) nd rfl (.inl rfl) (pe_op op_catA (pv 4) (pe_tup (pa_cons (pv 10) pa_nil))))
      (pss_one (ps_setLc (i := 5) (own := [("_law_row", 8)]) (g := gName 8) (tt := tYes) rfl nd rfl rfl (sw_true rfl rfl rfl (by decide +kernel)) (pi_list (pv 5)) (blkOk_by (N := nTr) (sc := defScope st_law_trained) (by decide +kernel)) (fun _ _ _ _ _ => (pg_name (i := 8) nd rfl (.inl rfl))) (fun _ _ _ _ _ => pts_nil) (fun _ _ _ _ _ => pe_def k1 hr (by rfl) (pa_cons (pv 8) (pa_cons (pv 10) (pa_cons (pe_op op_sub (pe_callB (r := rLen K) call_len_seq (by rfl) (G.blt _ (by decide)) PySem.boot_len (pa_cons (pv 3) pa_nil)) pe_int) pa_nil))))))))))))))
      (pss_one (ps_ret (pe_tup (pa_cons pe_str (pa_cons (pv 2) (pa_cons (pv 4) pa_nil)))))))))), ?_⟩
  have hz := X.short
  have hL := X.lets
  have L := X.ls
  have l6 := L.most
  refine ⟨⟨_, rfl⟩, ⟨_, rfl⟩, _, rfl, _, t, ts.map sT, rfl, rfl, .inr (by rw [map_sV]; exact hT), flat_join hz, ?_⟩
  rw [join_texts]
  refine .inl ⟨sT ts.flatten, rfl, by rw [sT_len]; omega, fun p ks np nk hk => ?_⟩
  have hk2 : ∀ y, y ∈ ks ↔ ∃ c ∈ ts.flatten, y = one c := fun y => by
    rw [hk, sT_list]
    rfl
  have s2 := Same.new (o := SsO w p ks) np
  have hls : ∀ ys : List Str, ys.Perm ks → sortedS ys = true → ys = ls.map one := fun ys pk hs => by
    obtain ⟨l2, h1, h2⟩ := lets_sorted pk nk hk2 hs
    rw [h2, lets_one h1 hL]
  have hlen : ks.length = ls.length := by
    have : ks.Perm (ls.map one) := (List.perm_ext_iff_of_nodup nk (by
      unfold List.Nodup
      rw [List.pairwise_map]
      exact L.nd.imp fun {a b} hab e => hab (one_inj e))).mpr fun y => by
        rw [hk2, List.mem_map]
        constructor
        · rintro ⟨c, h1, h2⟩
          exact ⟨c, (hL.2 c).mpr h1, h2.symm⟩
        · rintro ⟨c, h1, h2⟩
          exact ⟨c, (hL.2 c).mp h1, h2.symm⟩
    rw [this.length_eq, List.length_map]
  refine ⟨p, ks, rfl, upd_same, by omega, fun ys o pk hs no => ?_⟩
  obtain rfl := hls ys pk hs
  have s3 := s2.trans (Same.new (o := .lst ((ls.map one).map V.str)) no)
  have hj : ((ls.map one).map (·.length)).sum + (ls.map one).length * (Str.ofString "").length ≤ 16777216 := by
    have e : (ls.map one).map (·.length) = List.replicate ls.length 1 := by
      rw [List.map_map]
      exact List.eq_replicate_iff.mpr ⟨by simp, fun x hx => by
        obtain ⟨c, _, rfl⟩ := List.mem_map.mp hx
        rfl⟩
    rw [e, List.sum_replicate_nat, show (Str.ofString "").length = 0 by decide +kernel]
    omega
  refine ⟨_, o, ls.map one, rfl, rfl, .inl (.inl (.inl upd_same)), hj, ?_⟩
  rw [join_ones]
  have hmem : ∀ x ∈ ts, ∀ c ∈ x, c ∈ ls := fun x hx c hc => (hL.2 c).mpr (List.mem_flatten.mpr ⟨x, hx, hc⟩)
  -- some, merges
  refine ⟨by decide, fun p1 n1 => ⟨_, rfl, sT ls, rfl, by rw [sT_len]; exact line_small (by omega), fun p2 n2 => ?_⟩⟩
  have s4 := s3.trans ((Same.new (o := .lst [.str ""]) n1).trans (Same.new (o := .lst (signsV (sT ls))) n2))
  have e0 : [V.str (Str.ofString "")] ++ signsV (sT ls) = (pcs ls []).map sV := by
    rw [signsV_sT, ← sV_nil, pcs_nil, pcs0, List.map_cons, List.map_map]
    rfl
  refine ⟨p1, p2, _, _, rfl, rfl, (by rw [upd_ne (ne_of_none upd_same n2)]; exact upd_same), upd_same, ?_, fun S nS => ?_⟩
  · rw [← List.length_append, e0, List.length_map, pcs_len]
    exact line_small (by simp; omega)
  rw [e0]
  have nS0 : H S = none := s4.free nS
  have s5 := s4.trans (Same.new (o := .lst ((pcs ls []).map sV)) nS)
  refine ⟨Nat.zero_le _, fun M0 nM => ⟨by show 2 ≤ sizeLine; decide, fun T0 nT => ?_⟩⟩
  have sM := Same.new (o := .tup []) nM
  have sT0 := Same.new (o := .tup [.ref S, .ref M0]) nT
  have s6 := s5.trans (sM.trans sT0)
  have hS6 := sT0 _ _ (sM _ _ (upd_same (a := S) (o := .lst ((pcs ls []).map sV))))
  have hM6 := sT0 _ _ (upd_same (a := M0) (o := .tup []))
  refine ⟨T0, _, rfl, .inl (.inl upd_same), rfl, _, _, rfl, _, _, rfl, rfl, ?_⟩
  -- rows
  have hT6 := Same.tup s6 hT
  refine ⟨_, rfl, t, rfl, ⟨_, hT6⟩, fun D hD => ?_⟩
  refine lc_rows (K := K) (walk_tup (xs := ts.map sV)) (rows0 ls ts) (by unfold rows0; rw [List.length_map, List.length_map]) (by rw [List.length_map]; have := X.few; omega) hD (fun _ s7 => Same.tup s7 hT6) (fun _ => rfl) (fun i x H7 H8 row hrow s7 Y R k => ?_) fun H7 rs s7 e7 hR => ?_
  · obtain ⟨rfl, hx⟩ := Y
    unfold rows0 at hrow
    rw [List.getElem?_map] at hx hrow
    cases hc : ts[i]? with
    | none => rw [hc] at hx; cases hx
    | some z =>
      rw [hc] at hx hrow
      have ex : sV z = x := Option.some.inj hx
      have er : row0 ls z = row := Option.some.inj hrow
      subst ex er
      have hzm := List.mem_of_getElem? hc
      have hzl := part_le hzm
      have hxl : (sT z).cps.size = z.length := sT_len z
      refine ⟨_, rfl, sT z, rfl, fun D2 hD2 => ?_⟩
      refine lc_map (walk_str (z := sT z)) (rowV (row0 ls z)) (by unfold rowV row0; rw [hxl]; simp) (by rw [hxl]; omega) hD2 (fun _ _ => trivial) (fun _ => rfl) (fun i2 v H9 H10 y hy s9 Y R2 k2 => ?_) fun H9 s9 e9 => k H9 D2 s9 hD2 e9
      obtain ⟨rfl, c, hc2, rfl⟩ := Y
      have hc3 : z[i2]? = some c := by
        have hc4 : z.toArray[i2]? = some c := hc2
        simpa using hc4
      have hm : c ∈ ls := hmem z hzm c (List.mem_of_getElem? hc3)
      unfold rowV row0 at hy
      rw [List.getElem?_map, List.getElem?_map, hc3] at hy
      have ey : nV (letterTok ls c) = y := Option.some.inj hy
      obtain ⟨rest, ho⟩ := occ_idx hm
      refine ⟨_, rfl, ⟨_, rfl⟩, _, rfl, sT ls, ⟨#[c]⟩, _, rest, rfl, rfl, ho, 1, _, rfl, rfl, ?_⟩
      have e3 : V.int (1 + ((ls.idxOf c : Nat) : Int)) = y := by
        rw [← ey]
        unfold nV letterTok
        congr 1
      show R2 (V.int (1 + ((ls.idxOf c : Nat) : Int))) H10
      rw [e3]
      exact k2 _ (Same.refl _)
  -- the turns
  have hN : (if (10 : Int) < (n : Int) then (10 : Int) else (n : Int)).toNat = min n 10 := by
    split <;> omega
  have b1 : -(2 ^ 62) ≤ (if (10 : Int) < (n : Int) then (10 : Int) else (n : Int)) := by split <;> omega
  have b2 : (if (10 : Int) < (n : Int) then (10 : Int) else (n : Int)) < 2 ^ 62 := by split <;> omega
  refine ⟨_, rfl, (n : Int), 10, rfl, _, rfl, b1, b2, ?_⟩
  refine for_range (lo := 0) (n := (if (10 : Int) < (n : Int) then (10 : Int) else (n : Int)).toNat) (fun i σ H3 => ∃ ms rows M R bs rs y6 y7 y8 y9 y10 y11 y12 y13 y14, σ = [some (.ref t), some (nV n), some (sV ls), some (.ref S), some (.ref M), some (.ref R), y6, y7, y8, y9, y10, y11, y12, y13, y14] ∧ TrS K H H3 ls ts n ms rows S M R bs rs ∧ ms.length = i)
    ⟨[], rows0 ls ts, M0, D, [], rs, _, _, _, _, _, _, _, _, _, rfl, ⟨s6.trans s7, nS0, s7 _ _ hS6, .inl (.inl (s7 _ _ hM6)), ⟨rfl, fun i b m h => by simp at h⟩, .inl (.inl e7), hR, StOk.start L.nd hmem, ?_, Nat.zero_le _, rfl⟩, rfl⟩ (fun i σ H3 hi ⟨ms, rows, M, R, bs, rs, y6, y7, y8, y9, y10, y11, y12, y13, y14, es, tr, ei⟩ => ?_) fun σ H3 ⟨ms, rows, M, R, bs, rs, y6, y7, y8, y9, y10, y11, y12, y13, y14, es, tr, ei⟩ => ?_
  · refine ⟨by unfold rows0; rw [List.length_map]; exact X.few, fun r hr2 => ?_⟩
    obtain ⟨z, hz2, rfl⟩ := List.mem_map.mp hr2
    have := part_le hz2
    unfold row0
    rw [List.length_map]
    omega
  · subst es
    rw [hN] at hi
    have hl10 : ms.length ≤ 10 := by have := tr.le; omega
    have hlt : ∀ p ∈ allAdj rows, p.1 < 1 + ls.length + ms.length ∧ p.2 < 1 + ls.length + ms.length := fun p hp => by
      obtain ⟨r, hr2, h1, h2⟩ := mem_allAdj hp
      exact ⟨(tr.ok.okr r hr2 _ h1).2, (tr.ok.okr r hr2 _ h2).2⟩
    have hadj := tr.rb.adj
    -- the counts
    refine fun d hd => ?_
    have sd := Same.new (o := .dT []) hd
    refine ⟨_, rfl, R, rfl, ⟨_, sd.seq tr.sR⟩, ?_⟩
    refine for_list (xs := rs.map V.ref) (fun i2 σ H4 => ∃ y8 y9 y10 kvs, σ = [some (.ref t), some (nV n), some (sV ls), some (.ref S), some (.ref M), some (.ref R), some (.int (0 + (i : Int))), some (.ref d), y8, y9, y10, y11, y12, y13, y14] ∧ Same H3 H4 ∧ H4 d = some (.dT kvs) ∧ Cnts kvs (FA (rows.take i2) (pcs ls ms)))
      ⟨_, _, _, [], rfl, sd, upd_same, by rw [List.take_zero]; exact Cnts.nil⟩ (fun i2 σ H4 _ ⟨_, _, _, _, _, s4, _⟩ => s4.seq tr.sR) (fun i2 x σ H4 hx ⟨y8, y9, y10, kvs, es, s4, ed, hc⟩ => ?_) fun σ H4 ⟨y8, y9, y10, kvs, es, s4, ed, hc⟩ => ?_
    · subst es
      obtain ⟨r, hr2, rfl⟩ := ref_at hx
      have hi2 : i2 < rows.length := by
        have := (List.getElem?_eq_some_iff.mp hr2).1
        rw [← tr.sA.1]
        exact this
      have hrow : rows[i2]? = some rows[i2] := List.getElem?_eq_getElem hi2
      have hS4 := s4.seq (tr.sA.2 i2 r _ hr2 hrow)
      have hrl : (rowV rows[i2]).length = rows[i2].length := by unfold rowV; rw [List.length_map]
      have hshort := tr.rb.short _ (List.getElem_mem hi2)
      have hn3 : (((rowV rows[i2]).length : Int) - 1).toNat = rows[i2].length - 1 := by rw [hrl]; omega
      refine ⟨_, rfl, r, _, rfl, .inl hS4, _, 1, rfl, rfl, _, rfl, by rw [hrl]; omega, by rw [hrl]; omega, ?_⟩
      refine for_range (lo := 0) (n := (((rowV rows[i2]).length : Int) - 1).toNat) (fun j σ H5 => ∃ y9 y10 kvs, σ = [some (.ref t), some (nV n), some (sV ls), some (.ref S), some (.ref M), some (.ref R), some (.int (0 + (i : Int))), some (.ref d), some (.ref r), y9, y10, y11, y12, y13, y14] ∧ Same H3 H5 ∧ H5 d = some (.dT kvs) ∧
          Cnts kvs (FA (rows.take i2) (pcs ls ms) ++ ((adj rows[i2]).take j).filter fun p => decide (fresh (pcs ls ms) p)))
        ⟨_, _, kvs, rfl, s4, ed, by rw [List.take_zero, List.filter_nil, List.append_nil]; exact hc⟩ (fun j σ H5 hj ⟨y9, y10, kvs, es, s5, ed5, hc5⟩ => ?_) fun σ H5 ⟨y9, y10, kvs, es, s5, ed5, hc5⟩ => ?_
      · subst es
        rw [hn3] at hj
        have hj1 : j < rows[i2].length := by omega
        have hj2 : j + 1 < rows[i2].length := by omega
        have hS5 := s5.seq (tr.sA.2 i2 r _ hr2 hrow)
        have hp : (adj rows[i2])[j]? = some (rows[i2][j], rows[i2][j + 1]) := by
          unfold adj
          rw [List.getElem?_zip_eq_some]
          exact ⟨List.getElem?_eq_getElem hj1, by rw [List.getElem?_drop, Nat.add_comm 1 j]; exact List.getElem?_eq_getElem hj2⟩
        have hpm : (rows[i2][j], rows[i2][j + 1]) ∈ allAdj rows := List.mem_flatMap.mpr ⟨_, List.getElem_mem hi2, List.mem_of_getElem? hp⟩
        refine ⟨_, rfl, _, rfl, r, _, _, nV rows[i2][j], rfl, rfl, hS5, by rw [Int.zero_add]; exact row_at hj1, _, rfl, _, rfl, _, 1, rfl, rfl, r, _, _, nV rows[i2][j + 1], rfl, rfl, hS5, by rw [Int.zero_add]; exact row_at hj2, by show 2 ≤ sizeLine; decide, fun T nT => ?_⟩
        have sT6 := Same.new (o := .tup [nV rows[i2][j], nV rows[i2][j + 1]]) nT
        have s6' := s5.trans sT6
        have ed6 := sT6 _ _ ed5
        have hT7 : upd H5 T (.tup [nV rows[i2][j], nV rows[i2][j + 1]]) T = some (.tup (pairV (rows[i2][j], rows[i2][j + 1]))) := upd_same
        revert hT7 ed6 s6'
        generalize upd H5 T (.tup [nV rows[i2][j], nV rows[i2][j + 1]]) = H6'
        generalize hpp : (rows[i2][j], rows[i2][j + 1]) = pp at hp hpm
        intro s6' ed6 hT7
        obtain ⟨g1, g2⟩ := hlt _ hpm
        have hTq : SqT K H6' T (pairV pp) := .inl (.inl hT7)
        have hSq : SqL K H6' S ((pcs ls ms).map sV) := .inl (.inl (s6' _ _ tr.sS))
        have q1 := piece_short ls hl10 pp.1
        have q2 := piece_short ls hl10 pp.2
        refine ⟨_, rfl, _, rfl, T, _, 0, _, rfl, rfl, hTq, at0, S, _, _, _, rfl, rfl, hSq, pcs_atI g1, _, rfl, _, rfl, T, _, 1, _, rfl, rfl, hTq, at1, S, _, _, _, rfl, rfl, hSq, pcs_atI g2, _, _, rfl, rfl, by rw [sT_len, sT_len]; exact line_small (by omega), ?_⟩
        refine ⟨_, rfl, S, _, rfl, .inl hSq, rfl, flat_sVs _, _, rfl, ?_⟩
        have e : (!inV (V.str (sT (piece (pcs ls ms) pp.1) ++ sT (piece (pcs ls ms) pp.2))) ((pcs ls ms).map sV)) = decide (fresh (pcs ls ms) pp) := by
          rw [sT_app]
          show (!inV (sV (joined (pcs ls ms) pp)) _) = _
          rw [inV_sV]
          exact not_in_fresh _ _
        show if (!inV _ _) = true then _ else _
        rw [e]
        have st : ((adj rows[i2]).take (j + 1)).filter (fun p => decide (fresh (pcs ls ms) p)) = ((adj rows[i2]).take j).filter (fun p => decide (fresh (pcs ls ms) p)) ++ [pp].filter (fun p => decide (fresh (pcs ls ms) p)) := by
          rw [List.take_add_one, hp, List.filter_append]
          rfl
        refine ite2 (fun hf => ?_) (fun hf => ?_)
        · have hf2 : fresh (pcs ls ms) pp := of_decide_eq_true hf
          have hlen : kvs.length < sizeLine := by
            have h1 := hc5.len
            have h2 : (FA (rows.take i2) (pcs ls ms) ++ ((adj rows[i2]).take j).filter fun p => decide (fresh (pcs ls ms) p)).length ≤ (allAdj rows).length := by
              refine Nat.le_trans ?_ (allAdj_le rows (i2 + 1))
              rw [allAdj_take hrow, List.length_append, List.length_append]
              have h3 := FA_le (rows.take i2) (pcs ls ms)
              have h4 : (((adj rows[i2]).take j).filter fun p => decide (fresh (pcs ls ms) p)).length ≤ (adj rows[i2]).length := Nat.le_trans (List.length_filter_le _ _) (by rw [List.length_take]; omega)
              omega
            exact line_lt (by omega)
          refine ⟨_, rfl, d, rfl, .inr ⟨kvs, .inl ed6⟩, _, rfl, _, DGet.t (k := kk pp) ed6 hT7, ?_⟩
          rw [hc5.get]
          refine ⟨_, _, rfl, rfl, _, rfl, _, rfl, d, _, rfl, DPut.t (k := kk pp) ed6 hT7 hlen, ⟨_, _, _, rfl, fun x z ex => ?_, upd_same, ?_⟩⟩
          · rw [upd_ne (ne_of_none ex hd)]
            exact s6' _ _ ex
          · have := hc5.put pp
            rw [st, show [pp].filter (fun p => decide (fresh (pcs ls ms) p)) = [pp] by simp [hf2], ← List.append_assoc]
            exact this
        · have hf2 : ¬ fresh (pcs ls ms) pp := fun z => hf (decide_eq_true z)
          refine ⟨_, _, kvs, rfl, s6', ed6, ?_⟩
          rw [st, show [pp].filter (fun p => decide (fresh (pcs ls ms) p)) = [] by simp [hf2], List.append_nil]
          exact hc5
      · subst es
        refine ⟨_, _, _, kvs, rfl, s5, ed5, ?_⟩
        have et3 : (adj rows[i2]).take (rows[i2].length - 1) = adj rows[i2] := List.take_of_length_le (by rw [adj_len, List.length_drop]; omega)
        rw [hn3, et3] at hc5
        rw [FA_take hrow]
        exact hc5
    · subst es
      have et : rows.take (rs.map V.ref).length = rows := by rw [List.length_map, tr.sA.1, List.take_length]
      rw [et] at hc
      obtain ⟨ps, hnd, hpm, rfl⟩ := id hc
      have hpl : ps.length ≤ 100000 := Nat.le_trans (nodup_len hnd fun p hp => (hpm p).mp hp) (Nat.le_trans (FA_le _ _) hadj)
      have tr4 := tr.same s4
      have hval : ∀ p ∈ ps, valV (ps.map fun p => (kk p, nV ((FA rows (pcs ls ms)).count p))) (kk p) = some (nV ((FA rows (pcs ls ms)).count p)) := fun p hp => by
        rw [hc.val, if_pos ((hpm p).mp hp)]
      -- most
      refine ⟨d, _, ed, trivial, fun od => ⟨_, rfl, d, od, rfl, .inr ⟨_, upd_same, fun D1 hD1 => ?_⟩⟩⟩
      refine lc_map walk_keysT (ps.map fun p => nV ((FA rows (pcs ls ms)).count p)) (by rw [List.length_map, List.length_map]) (by rw [List.length_map]; omega) hD1 (fun _ s5 => s5 _ _ upd_same) (fun _ => rfl) (fun i5 x H5 H6 y hy s5 Y R5 k => ?_) fun H5 s5 e5 => ?_
      · obtain ⟨rfl, ky, v, qa, hk, rfl, hqa⟩ := Y
        rw [List.getElem?_map] at hk hy
        cases hp : ps[i5]? with
        | none => rw [hp] at hk; cases hk
        | some p =>
          rw [hp] at hk hy
          have e1 : (kk p, nV ((FA rows (pcs ls ms)).count p)) = (ky, v) := Option.some.inj hk
          have e2 : nV ((FA rows (pcs ls ms)).count p) = y := Option.some.inj hy
          injection e1 with e1 e3
          subst e1 e2
          exact ⟨_, rfl, _, rfl, d, _, rfl, .inr ⟨_, kk p, qa, .inr ⟨od, s5 _ _ upd_same⟩, rfl, hqa, (hval p (List.mem_of_getElem? hp)).symm⟩, k _ (Same.refl _)⟩
      have s6a := Same.unlock ed s5
      have dD1 : D1 ≠ d := (ne_of_none upd_same hD1).symm
      have eD1 : upd H5 d (.dT (ps.map fun p => (kk p, nV ((FA rows (pcs ls ms)).count p)))) D1 = some (.lst (ps.map fun p => nV ((FA rows (pcs ls ms)).count p))) := by rw [upd_ne dD1]; exact e5
      refine ⟨s5 _ _ upd_same, by decide, fun z nz => ⟨D1, z, _, _, rfl, rfl, Same.new nz _ _ eD1, upd_same, by rw [List.length_map]; exact line_small (by show ps.length + 1 ≤ 1000000; omega), fun c nc => ?_⟩⟩
      have s8 := s4.trans (s6a.trans ((Same.new (o := .lst [.int 0]) nz).trans (Same.new (o := .lst ((ps.map fun p => nV ((FA rows (pcs ls ms)).count p)) ++ [.int 0])) nc)))
      have ed8 := Same.new (o := .lst ((ps.map fun p => nV ((FA rows (pcs ls ms)).count p)) ++ [.int 0])) nc _ _ (Same.new (o := .lst [.int 0]) nz _ _ (upd_same (H := H5) (a := d) (o := .dT (ps.map fun p => (kk p, nV ((FA rows (pcs ls ms)).count p))))))
      have ens : (ps.map fun p => nV ((FA rows (pcs ls ms)).count p)) ++ [.int 0] = ((ps.map fun p => (((FA rows (pcs ls ms)).count p : Nat) : Int)) ++ [0]).map V.int := by
        rw [List.map_append, List.map_map]
        rfl
      refine ⟨c, (ps.map fun p => (((FA rows (pcs ls ms)).count p : Nat) : Int)) ++ [0], rfl, by rw [← ens]; exact .inl (.inl upd_same), by simp, fun m hm hle => ?_⟩
      revert s8 ed8
      generalize upd (upd (upd H5 d (.dT (ps.map fun p => (kk p, nV ((FA rows (pcs ls ms)).count p))))) z (.lst [.int 0])) c (.lst ((ps.map fun p => nV ((FA rows (pcs ls ms)).count p)) ++ [.int 0])) = H8
      intro s8 ed8
      have hmax : ∀ q, fresh (pcs ls ms) q → ((cnt rows q : Nat) : Int) ≤ m := fun q hq => by
        by_cases hqm : q ∈ ps
        · have := hle _ (List.mem_append_left _ (List.mem_map_of_mem (f := fun p => (((FA rows (pcs ls ms)).count p : Nat) : Int)) hqm))
          rwa [FA_count hq] at this
        · have h0 := hle 0 (List.mem_append_right _ (List.mem_singleton.mpr rfl))
          have h1 : cnt rows q = 0 := by
            rw [← FA_count hq]
            exact List.count_eq_zero.mpr fun z => hqm ((hpm q).mpr z)
          rw [h1]
          exact h0
      refine ⟨_, rfl, m, 2, rfl, rfl, _, rfl, ite2 (fun h2 => ?_) (fun h2 => ?_)⟩
      · -- break
        have hb := best_no hmax (of_decide_eq_true h2)
        have hms : trained ls ts n = ms := by rw [tr.tr, train_none _ hb]
        have tr8 := tr.same s8
        refine ⟨_, rfl, _, rfl, by show 3 ≤ sizeLine; decide, fun v nv => ?_⟩
        have sv := Same.new (o := .tup [.str (Str.ofString "vocabulary"), sV ls, .ref M]) nv
        refine q _ v (tr8.sm.trans sv) ?_
        rw [hms]
        exact ⟨M, bs, .inl (.inl upd_same), Same.tup sv tr8.sM, tr8.sB.same sv⟩
      · have hm2 : 2 ≤ m := by
          have : ¬ m < 2 := fun z => h2 (decide_eq_true z)
          omega
        refine ⟨d, _, ed8, trivial, fun od2 => ⟨_, rfl, d, od2, rfl, .inr ⟨_, upd_same, fun D2 hD2 => ?_⟩⟩⟩
        refine lc_keys (fun p => decide (nV ((FA rows (pcs ls ms)).count p) = V.int m)) (by omega) hD2 upd_same (fun _ => rfl) (fun qa p H9 hp s9 hqa R9 k => ?_) (fun x H9 R9 k => ⟨_, rfl, k⟩) fun H9 qs s9 e9 hP => ?_
        · exact ⟨_, rfl, _, rfl, d, _, rfl, .inr ⟨_, kk p, qa, .inr ⟨od2, s9 _ _ upd_same⟩, rfl, hqa, (hval p hp).symm⟩, _, rfl, rfl, _, rfl, k⟩
        have ed9 := s9 _ _ (upd_same (H := H8) (a := d))
        have s10 := s8.trans (Same.unlock ed8 s9)
        have dD2 : D2 ≠ d := (ne_of_none upd_same hD2).symm
        have eD2 : upd H9 d (.dT (ps.map fun p => (kk p, nV ((FA rows (pcs ls ms)).count p)))) D2 = some (.lst (qs.map V.ref)) := by rw [upd_ne dD2]; exact e9
        have hP10 : Paired (fun (p : P2) (q : Addr) => upd H9 d (.dT (ps.map fun p => (kk p, nV ((FA rows (pcs ls ms)).count p)))) q = some (.tup (pairV p))) (ps.filter fun p => decide (nV ((FA rows (pcs ls ms)).count p) = V.int m)) qs :=
          Paired.mapP hP fun p q e => by
            rw [upd_ne (ne_of e ed9 fun z => nomatch z)]
            exact e
        refine ⟨ed9, ?_⟩
        revert s10 eD2 hP10
        generalize upd H9 d (.dT (ps.map fun p => (kk p, nV ((FA rows (pcs ls ms)).count p)))) = H10
        intro s10 eD2 hP10
        have hin : ∀ q, fresh (pcs ls ms) q → ((cnt rows q : Nat) : Int) = m → ∃ c ∈ qs, pOf H10 (.ref c) = q := fun q hq hcq => by
          refine paired_right hP10 q (List.mem_filter.mpr ⟨(hpm q).mpr ?_, decide_eq_true ?_⟩)
          · refine List.count_pos_iff.mp ?_
            rw [FA_count hq]
            omega
          · rw [FA_count hq]
            exact congrArg V.int hcq
        have hne : qs ≠ [] := fun z => by
          rcases List.mem_append.mp hm with h | h
          · obtain ⟨p, hp, ep⟩ := List.mem_map.mp h
            have hpf := (FA_mem.mp ((hpm p).mp hp)).2
            obtain ⟨c, hcm, _⟩ := hin p hpf (by rw [← FA_count hpf]; exact ep)
            rw [z] at hcm
            cases hcm
          · have := List.mem_singleton.mp h
            omega
        refine ⟨D2, qs, fun b => (((pOf H10 (.ref b)).1 : Int), ((pOf H10 (.ref b)).2 : Int)), rfl, .inl (.inl eD2), fun b hb => .inl (.inl (paired_left hP10 b hb).2), hne, fun b hb hmin => ?_⟩
        obtain ⟨hbf, hb10⟩ := paired_left hP10 b hb
        obtain ⟨hbp, hbc⟩ := List.mem_filter.mp hbf
        generalize hpe : pOf H10 (.ref b) = p at hbf hb10 hbp hbc
        obtain ⟨hpa, hpf⟩ := FA_mem.mp ((hpm p).mp hbp)
        have hcm : ((cnt rows p : Nat) : Int) = m := by
          have h1 : nV ((FA rows (pcs ls ms)).count p) = V.int m := of_decide_eq_true hbc
          rw [FA_count hpf] at h1
          exact V.int.inj h1
        have hbest : best rows (pcs ls ms) = some p := best_yes hmax hm2 hpf hcm fun q hq hcq => by
          obtain ⟨c, hcq2, ecq⟩ := hin q hq hcq
          have h1 := hmin c hcq2
          unfold iLe at h1
          simp only at h1
          rw [hpe, ecq] at h1
          unfold pairLe
          omega
        have tr10 := tr.same s10
        obtain ⟨g1, g2⟩ := hlt p hpa
        have hbq : SqT K H10 b (pairV p) := .inl (.inl hb10)
        have hSq : SqL K H10 S ((pcs ls ms).map sV) := .inl (.inl tr10.sS)
        have q1 := piece_short ls hl10 p.1
        have q2 := piece_short ls hl10 p.2
        refine ⟨_, rfl, .inl ⟨rfl, _, hSq⟩, _, rfl, _, rfl, b, _, 0, _, rfl, rfl, hbq, at0, S, _, _, _, rfl, rfl, hSq, pcs_atI g1, _, rfl, _, rfl, b, _, 1, _, rfl, rfl, hbq, at1, S, _, _, _, rfl, rfl, hSq, pcs_atI g2, _, _, rfl, rfl, by rw [sT_len, sT_len]; exact line_small (by omega), S, _, _, rfl, rfl, tr10.sS, by rw [List.length_map, pcs_len]; exact line_lt (by omega), ?_⟩
        have eap : (pcs ls ms).map sV ++ [V.str (sT (piece (pcs ls ms) p.1) ++ sT (piece (pcs ls ms) p.2))] = (pcs ls (ms ++ [p])).map sV := by
          rw [pcs_snoc, List.map_append, sT_app]
          rfl
        rw [eap]
        have hS13 : upd H10 S (.lst ((pcs ls (ms ++ [p])).map sV)) S = some (.lst ((pcs ls (ms ++ [p])).map sV)) := upd_same
        have hb13 : SqT K (upd H10 S (.lst ((pcs ls (ms ++ [p])).map sV))) b (pairV p) := offT hbq tr10.sS
        obtain ⟨g1, g2', g3, g4, g5⟩ := tr10.grown (.lst ((pcs ls (ms ++ [p])).map sV))
        revert hS13 hb13 g1 g2' g3 g4 g5
        generalize upd H10 S (.lst ((pcs ls (ms ++ [p])).map sV)) = H13
        intro hS13 hb13 g1 g2' g3 g4 g5
        have hbl : (bs.map V.ref).length = ms.length := by rw [List.length_map, tr.sB.1]
        have hlN := tr.le
        refine ⟨_, rfl, _, rfl, by show 1 ≤ sizeLine; decide, fun u nu => ?_⟩
        have su := Same.new (o := .tup [.ref b]) nu
        refine ⟨M, u, bs.map V.ref, [.ref b], rfl, rfl, Same.tup su g2', .inl (.inl upd_same), by rw [hbl]; exact line_small (by show ms.length + 1 ≤ 1000000; omega), fun h0 => ?_, fun _ h1 => (nomatch h1), fun h0 h1 p2 np2 => ?_⟩
        · have hM14 : SqT K (upd H13 u (.tup [.ref b])) u ((bs ++ [b]).map V.ref) := by
            rw [List.map_append, h0]
            exact .inl (.inl upd_same)
          refine ⟨_, rfl, R, rfl, ⟨_, Same.seq su g4⟩, fun D3 hD3 => ?_⟩
          have hS14 := (su) _ _ hS13
          refine lc_rows (K := K) (walk_list (xs := rs.map V.ref)) (rows.map (merge p (1 + ls.length + ms.length))) (by rw [List.length_map, List.length_map, tr.sA.1]) (by rw [List.length_map, tr.sA.1]; have := tr.rb.few; omega) hD3 (fun _ s15 => s15.seq (Same.seq su g4)) (fun _ => rfl) (fun i5 x H15 H16 row hrow s15 Y R3 k => ?_) fun H15 rs2 s15 e15 hR15 => ?_
          · obtain ⟨rfl, hx⟩ := Y
            obtain ⟨r, hr2, rfl⟩ := ref_at hx
            rw [List.getElem?_map] at hrow
            cases hc : rows[i5]? with
            | none => rw [hc] at hrow; cases hrow
            | some row0 =>
              rw [hc] at hrow
              have er : merge p (1 + ls.length + ms.length) row0 = row := Option.some.inj hrow
              subst er
              have s16 := (su).trans s15
              refine ⟨_, rfl, _, rfl, _, rfl, S, _, rfl, .inl (.inl (.inl (s15 _ _ hS14))), _, 1, rfl, rfl, r, b, row0, p, 1 + ls.length + ms.length, ?_, s16.seq (g5.2 i5 r row0 hr2 hc), Same.tup s16 hb13, tr.rb.short _ (List.mem_of_getElem? hc), fun H17 o17 s17 no17 eo17 => k H17 o17 s17 no17 eo17⟩
              show [V.ref r, V.ref b, V.int ((((pcs ls (ms ++ [p])).map sV).length : Int) - 1)] = [V.ref r, V.ref b, V.int ((1 + ls.length + ms.length : Nat) : Int)]
              rw [List.length_map, pcs_len, List.length_append, List.length_singleton]
              rw [show ((1 + ls.length + (ms.length + 1) : Nat) : Int) - 1 = ((1 + ls.length + ms.length : Nat) : Int) by omega]
          · have s16 := (su).trans s15
            have e1 : (ms ++ [p]).length = ms.length + 1 := by simp
            refine ⟨ms ++ [p], rows.map (merge p (1 + ls.length + ms.length)), u, D3, bs ++ [b], rs2, _, _, _, _, _, _, _, _, _, rfl, ⟨g1.trans s16, tr.nS, s16 _ _ hS13, Same.tup s15 hM14, Prs.snoc (g3.same s16) (Same.tup s16 hb13), .inl (.inl e15), hR15, tr.ok.next hbest, tr.rb.merge _ _, by omega, ?_⟩, by omega⟩
            rw [tr.tr, show min n 10 - ms.length = (min n 10 - (ms ++ [p]).length) + 1 by omega, train_some _ hbest]
        · have su2 := su.trans (Same.new (o := .tup (bs.map V.ref ++ [.ref b])) np2)
          have hM14 : SqT K (upd (upd H13 u (.tup [.ref b])) p2 (.tup (bs.map V.ref ++ [.ref b]))) p2 ((bs ++ [b]).map V.ref) := by
            rw [List.map_append]
            exact .inl (.inl upd_same)
          refine ⟨_, rfl, R, rfl, ⟨_, Same.seq su2 g4⟩, fun D3 hD3 => ?_⟩
          have hS14 := (su2) _ _ hS13
          refine lc_rows (K := K) (walk_list (xs := rs.map V.ref)) (rows.map (merge p (1 + ls.length + ms.length))) (by rw [List.length_map, List.length_map, tr.sA.1]) (by rw [List.length_map, tr.sA.1]; have := tr.rb.few; omega) hD3 (fun _ s15 => s15.seq (Same.seq su2 g4)) (fun _ => rfl) (fun i5 x H15 H16 row hrow s15 Y R3 k => ?_) fun H15 rs2 s15 e15 hR15 => ?_
          · obtain ⟨rfl, hx⟩ := Y
            obtain ⟨r, hr2, rfl⟩ := ref_at hx
            rw [List.getElem?_map] at hrow
            cases hc : rows[i5]? with
            | none => rw [hc] at hrow; cases hrow
            | some row0 =>
              rw [hc] at hrow
              have er : merge p (1 + ls.length + ms.length) row0 = row := Option.some.inj hrow
              subst er
              have s16 := (su2).trans s15
              refine ⟨_, rfl, _, rfl, _, rfl, S, _, rfl, .inl (.inl (.inl (s15 _ _ hS14))), _, 1, rfl, rfl, r, b, row0, p, 1 + ls.length + ms.length, ?_, s16.seq (g5.2 i5 r row0 hr2 hc), Same.tup s16 hb13, tr.rb.short _ (List.mem_of_getElem? hc), fun H17 o17 s17 no17 eo17 => k H17 o17 s17 no17 eo17⟩
              show [V.ref r, V.ref b, V.int ((((pcs ls (ms ++ [p])).map sV).length : Int) - 1)] = [V.ref r, V.ref b, V.int ((1 + ls.length + ms.length : Nat) : Int)]
              rw [List.length_map, pcs_len, List.length_append, List.length_singleton]
              rw [show ((1 + ls.length + (ms.length + 1) : Nat) : Int) - 1 = ((1 + ls.length + ms.length : Nat) : Int) by omega]
          · have s16 := (su2).trans s15
            have e1 : (ms ++ [p]).length = ms.length + 1 := by simp
            refine ⟨ms ++ [p], rows.map (merge p (1 + ls.length + ms.length)), p2, D3, bs ++ [b], rs2, _, _, _, _, _, _, _, _, _, rfl, ⟨g1.trans s16, tr.nS, s16 _ _ hS13, Same.tup s15 hM14, Prs.snoc (g3.same s16) (Same.tup s16 hb13), .inl (.inl e15), hR15, tr.ok.next hbest, tr.rb.merge _ _, by omega, ?_⟩, by omega⟩
            rw [tr.tr, show min n 10 - ms.length = (min n 10 - (ms ++ [p]).length) + 1 by omega, train_some _ hbest]
  · subst es
    rw [hN] at ei
    have hms : trained ls ts n = ms := by rw [tr.tr, ei, Nat.sub_self, train_zero]
    refine ⟨_, rfl, _, rfl, by show 3 ≤ sizeLine; decide, fun v nv => ?_⟩
    have sv := Same.new (o := .tup [.str (Str.ofString "vocabulary"), sV ls, .ref M]) nv
    refine q _ v (tr.sm.trans sv) ?_
    rw [hms]
    exact ⟨M, bs, .inl (.inl upd_same), Same.tup sv tr.sM, tr.sB.same sv⟩
end
end TK
end
section
set_option Elab.async false
set_option linter.all false
set_option maxRecDepth 100000
set_option maxHeartbeats 8000000
/-! Data that is shown: vocabularies, tokens. -/
namespace TK
open PySem PySem.Spec L2
open PyProof.Rows TL
/-- data that can be shown, of a depth and a weight -/
structure Sh (d : PyData) (dp wt : Nat) : Prop where
  sh : d.showable = true
  hd : d.hasDict = false
  cl : d.canLay0 = true
  ish : d.intsShort 13 = true
  dp : d.depth ≤ dp
  wt : d.weight ≤ wt
structure ShA (ds : List PyData) (dp wt : Nat) : Prop where
  sh : PyData.showableAll ds = true
  hd : PyData.hasDictAll ds = false
  cl : PyData.canLayAll0 ds = true
  ish : PyData.intsShortAll 13 ds = true
  dp : PyData.depthAll ds ≤ dp
  wt : PyData.weightAll ds ≤ wt
theorem ShA.nil : ShA [] 0 0 := ⟨rfl, rfl, rfl, rfl, Nat.le_refl _, Nat.le_refl _⟩
theorem ShA.cons {d : PyData} {ds : List PyData} {dp dp' wt wt' : Nat} (h : Sh d dp wt) (t : ShA ds dp' wt') : ShA (d :: ds) (max dp dp') (wt + 1 + wt') := by
  refine ⟨?_, ?_, ?_, ?_, ?_, ?_⟩
  · show (d.showable && PyData.showableAll ds) = true
    rw [h.sh, t.sh]
    rfl
  · show (d.hasDict || PyData.hasDictAll ds) = false
    rw [h.hd, t.hd]
    rfl
  · show (d.canLay0 && PyData.canLayAll0 ds) = true
    rw [h.cl, t.cl]
    rfl
  · show (d.intsShort 13 && PyData.intsShortAll 13 ds) = true
    rw [h.ish, t.ish]
    rfl
  · show max d.depth (PyData.depthAll ds) ≤ _
    have := h.dp
    have := t.dp
    omega
  · show d.weight + 1 + PyData.weightAll ds ≤ _
    have := h.wt
    have := t.wt
    omega
theorem ShA.mono {ds : List PyData} {dp dp' wt wt' : Nat} (h : ShA ds dp wt) (h1 : dp ≤ dp') (h2 : wt ≤ wt') : ShA ds dp' wt' := ⟨h.sh, h.hd, h.cl, h.ish, Nat.le_trans h.dp h1, Nat.le_trans h.wt h2⟩
theorem Sh.mono {d : PyData} {dp dp' wt wt' : Nat} (h : Sh d dp wt) (h1 : dp ≤ dp') (h2 : wt ≤ wt') : Sh d dp' wt' := ⟨h.sh, h.hd, h.cl, h.ish, Nat.le_trans h.dp h1, Nat.le_trans h.wt h2⟩
theorem ShA.tuple {ds : List PyData} {dp wt : Nat} (h : ShA ds dp wt) : Sh (.tuple ds) (dp + 1) wt := ⟨h.sh, h.hd, h.cl, h.ish, Nat.succ_le_succ h.dp, h.wt⟩
theorem Sh.consM {d : PyData} {ds : List PyData} {dp wt n : Nat} (h : Sh d dp wt) (t : ShA ds dp (n * (wt + 1))) : ShA (d :: ds) dp ((n + 1) * (wt + 1)) :=
  (ShA.cons h t).mono (by omega) (by rw [Nat.succ_mul]; omega)
theorem ShA.map {α : Type} {f : α → PyData} {dp wt : Nat} : ∀ {l : List α}, (∀ x ∈ l, Sh (f x) dp wt) → ShA (l.map f) dp (l.length * (wt + 1))
  | [], _ => ShA.nil.mono (Nat.zero_le _) (Nat.zero_le _)
  | x :: l, h => ((h x List.mem_cons_self).mono (Nat.le_refl _) (Nat.le_refl _)).consM (ShA.map fun y hy => h y (List.mem_cons_of_mem _ hy))
theorem sh_nat {n : Nat} (h : n < 20) : Sh (nD n) 0 20 := by
  have key : ∀ n : Fin 20, ((nD n.1).showable && (nD n.1).intsShort 13 && decide ((nD n.1).weight ≤ 20)) = true := by decide +kernel
  have k := key ⟨n, h⟩
  simp only [Bool.and_eq_true, decide_eq_true_eq] at k
  exact ⟨k.1.1, rfl, rfl, k.1.2, Nat.le_refl _, k.2⟩
theorem sh_txt {l : List Nat} (h : ∀ c ∈ l, c < 1000) : Sh (.str (sT l)) 0 l.length := by
  refine ⟨rfl, rfl, ?_, rfl, Nat.le_refl _, ?_⟩
  · show l.toArray.all (· < 0x110000) = true
    rw [List.all_toArray, List.all_eq_true]
    intro c hc
    have := h c hc
    exact decide_eq_true (by omega)
  · show l.toArray.size ≤ l.length
    simp
theorem shown_ok {d : PyData} {dp wt : Nat} (h : Sh d dp wt) (h1 : dp ≤ 30) (h2 : wt ≤ 100000) : d.showable = true ∧ d.hasDict = false ∧ d.depth ≤ 40 ∧ d.shown.length ≤ sizeLine := by
  refine ⟨h.sh, h.hd, Nat.le_trans h.dp (by omega), ?_⟩
  have hl : PyData.layable0 d = true := by
    show (d.canLay0 && decide (d.depth ≤ 64) && decide (d.weight ≤ 2 ^ 20)) = true
    have := h.dp
    have := h.wt
    rw [h.cl, decide_eq_true (by omega), decide_eq_true (by omega)]
    rfl
  have := shown_le13 hl h.ish
  rw [sizeLine_eq]
  omega
/-! ### vocabularies, tokens -/
def pairD (m : P2) : PyData := .tuple [nD m.1, nD m.2]
def vocD (ls : List Nat) (ms : List P2) : PyData := .tuple [.str "vocabulary", .str (sT ls), .tuple (ms.map pairD)]
theorem Prs.tail {K : PySem.W.Frag} {H : Hp} {b : Addr} {bs : List Addr} {m : P2} {ms : List P2} (h : Prs K H (b :: bs) (m :: ms)) : SqT K H b (pairV m) ∧ Prs K H bs ms :=
  ⟨h.2 0 b m rfl rfl, Nat.succ.inj h.1, fun i c x h1 h2 => h.2 (i + 1) c x h1 h2⟩
theorem dp_prs {K : PySem.W.Frag} {H : Hp} : ∀ {bs : List Addr} {ms : List P2}, Prs K H bs ms → DpAll K H (bs.map V.ref) (ms.map pairD)
  | [], [], _ => .nil
  | [], _ :: _, h => by cases h.1
  | _ :: _, [], h => by cases h.1
  | b :: bs, m :: ms, h => .cons (.tup (xs := pairV m) h.tail.1 (dp_ints [m.1, m.2])) (dp_prs h.tail.2)
theorem dp_voc {K : PySem.W.Frag} {H : Hp} {a : Addr} {ls : List Nat} {ms : List P2} (h : Voc K H a ls ms) : Dp K H (.ref a) (vocD ls ms) :=
  let ⟨_, _, h1, h2, h3⟩ := h
  .tup h1 (.cons (.str _) (.cons (.str _) (.cons (.tup h2 (dp_prs h3)) .nil)))
theorem sh_voc {ls : List Nat} {ms : List P2} (h1 : ls.length ≤ 6) (h2 : ∀ c ∈ ls, c < 1000) (h3 : ms.length ≤ 10) (h4 : MsOk ls.length ms) : Sh (vocD ls ms) 3 1000 := by
  have hm : ∀ m ∈ ms, Sh (pairD m) 1 42 := fun m hm => by
    obtain ⟨i, hi⟩ := List.mem_iff_getElem?.mp hm
    have hi2 := (List.getElem?_eq_some_iff.mp hi).1
    obtain ⟨⟨_, g1⟩, _, g2⟩ := h4 i m hi
    exact ((ShA.cons (sh_nat (by omega)) (ShA.cons (sh_nat (by omega)) ShA.nil)).tuple).mono (by decide) (by decide)
  have hp := (ShA.map hm).tuple
  have hv : Sh (.str "vocabulary") 0 10 := by
    have : (Str.ofString "vocabulary") = sT [118, 111, 99, 97, 98, 117, 108, 97, 114, 121] := by decide +kernel
    rw [this]
    exact sh_txt (by decide)
  have hl := sh_txt h2
  refine (ShA.cons hv (ShA.cons hl (ShA.cons hp ShA.nil))).tuple.mono (by decide) ?_
  have : ms.length * 43 ≤ 430 := Nat.mul_le_mul_right 43 h3
  omega
theorem sh_row {r : List Nat} (h1 : r.length ≤ 1000) (h2 : ∀ t ∈ r, t < 20) : Sh (.tuple (r.map nD)) 1 21000 :=
  (ShA.map fun t ht => sh_nat (h2 t ht)).tuple.mono (Nat.le_refl _) (by have := Nat.mul_le_mul_right 21 h1; omega)
end TK
end
section
set_option Elab.async false
set_option linter.all false
set_option maxRecDepth 100000
set_option maxHeartbeats 8000000
/-! Plain facts for the law: letters of drawn texts, a sign many times, what stands a deck's draw. -/
namespace TK
open PySem PySem.Spec L2
open PyProof.Rows TL
theorem nodup_lenN : ∀ {ps l : List Nat}, ps.Nodup → (∀ p ∈ ps, p ∈ l) → ps.length ≤ l.length
  | [], _, _, _ => Nat.zero_le _
  | p :: ps, l, h, hs => by
    have h1 := List.nodup_cons.mp h
    have hp := hs p List.mem_cons_self
    have := nodup_lenN (ps := ps) (l := l.erase p) h1.2 fun q hq => (List.mem_erase_of_ne fun (e : q = p) => h1.1 (e ▸ hq)).mpr (hs q (List.mem_cons_of_mem _ hq))
    rw [List.length_erase_of_mem hp] at this
    have := List.length_pos_of_mem hp
    rw [List.length_cons]
    omega
theorem low_range {c : Nat} (h : Low c) : 97 ≤ c ∧ c ≤ 122 := by
  unfold Low at h
  simp at h
  omega
theorem lets_there {z : List Nat} (h : ∀ c ∈ z, Low c) (hz : z ≠ []) : ∃ ls, LetsOf z ls ∧ Lets ls ∧ ∀ c ∈ ls, Low c := by
  have hm : ∀ c, c ∈ (List.range 200).filter (fun c => decide (c ∈ z)) ↔ c ∈ z := fun c => by
    rw [List.mem_filter, List.mem_range, decide_eq_true_eq]
    exact ⟨fun q => q.2, fun q => ⟨by have := low_range (h c q); omega, q⟩⟩
  have hp : ((List.range 200).filter fun c => decide (c ∈ z)).Pairwise (· < ·) := List.pairwise_lt_range.sublist List.filter_sublist
  have hn : ((List.range 200).filter fun c => decide (c ∈ z)).Nodup := hp.imp fun hab e => by omega
  have hl : ∀ c ∈ (List.range 200).filter (fun c => decide (c ∈ z)), Low c := fun c hc => h c ((hm c).mp hc)
  refine ⟨_, ⟨hp, hm⟩, ⟨?_, ?_, fun c hc => low_range (hl c hc), hn⟩, hl⟩
  · cases z with
    | nil => exact absurd rfl hz
    | cons a z => exact List.length_pos_of_mem ((hm a).mpr List.mem_cons_self)
  · exact nodup_lenN hn fun c hc => hl c hc
theorem fold_one (c : Nat) : ∀ (k : Nat) (acc : Array Nat), ((List.replicate k #[c]).foldl (· ++ ·) acc).toList = acc.toList ++ List.replicate k c
  | 0, acc => by simp
  | k + 1, acc => by
    rw [List.replicate_succ, List.foldl_cons, fold_one c k, List.replicate_succ]
    simp
theorem mul_sign (c : Nat) {k : Nat} (h : 1 ≤ k) : Txt.mul (sT [c]) (k : Int) = sT (List.replicate k c) := by
  unfold Txt.mul
  rw [if_neg (by omega)]
  by_cases h1 : k = 1
  · subst h1
    rfl
  · have e : (((k : Int) == 1) || (sT [c]).length == 0) = false := by
      have h2 : ((k : Int) == 1) = false := by
        rw [beq_eq_false_iff_ne]
        omega
      rw [h2]
      rfl
    rw [e, if_neg Bool.false_ne_true, Int.toNat_natCast]
    show (⟨(List.replicate k #[c]).foldl (· ++ ·) #[]⟩ : Str) = ⟨(List.replicate k c).toArray⟩
    congr 1
    rw [← Array.toList_inj, fold_one]
    simp
theorem mul_ok (c : Nat) {k : Nat} (h1 : 1 ≤ k) (h2 : k ≤ 9) : MulOk (sT [c]) (k : Int) := by
  have : k = 1 ∨ k = 2 ∨ k = 3 ∨ k = 4 ∨ k = 5 ∨ k = 6 ∨ k = 7 ∨ k = 8 ∨ k = 9 := by omega
  rcases this with rfl | rfl | rfl | rfl | rfl | rfl | rfl | rfl | rfl <;> exact ⟨by decide, fun _ _ => by show ¬ ((1 : Int) > _); decide, fun _ _ => rfl⟩
theorem restT {K : PySem.W.Frag} {H H' : Hp} {d l a : Addr} {xs : List V} (dk : Deck H d l) (r : Rest d l H H') (h : SqT K H a xs) : SqT K H' a xs := by
  obtain ⟨mx, k, ns, h1, h2, _⟩ := dk.ex
  rcases h with (h | ⟨ob, h⟩) | h
  · exact .inl (.inl (r _ _ (ne_of h h1 fun z => nomatch z) (ne_of h h2 fun z => nomatch z) h))
  · exact .inl (.inr ⟨ob, r _ _ (ne_of h h1 fun z => nomatch z) (ne_of h h2 fun z => nomatch z) h⟩)
  · exact .inr h
theorem restV {K : PySem.W.Frag} {H H' : Hp} {d l a : Addr} {ls : List Nat} {ms : List P2} (dk : Deck H d l) (r : Rest d l H H') (h : Voc K H a ls ms) : Voc K H' a ls ms :=
  let ⟨m, bs, h1, h2, h3⟩ := h
  ⟨m, bs, restT dk r h1, restT dk r h2, h3.1, fun i b x g1 g2 => restT dk r (h3.2 i b x g1 g2)⟩
theorem good_trained {ts : List (List Nat)} {ls : List Nat} (X : Txts ts ls) (n : Nat) : Good ls (trained ls ts n) := by
  have hmem : ∀ x ∈ ts, ∀ c ∈ x, c ∈ ls := fun x hx c hc => (X.lets.2 c).mpr (List.mem_flatten.mpr ⟨x, hx, hc⟩)
  obtain ⟨h1, h2⟩ := train_ok (min n 10) (StOk.start X.ls.nd hmem)
  exact ⟨X.ls, trained_len ls ts n, h1, h2⟩
end TK
end
section
set_option Elab.async false
set_option linter.all false
set_option maxRecDepth 100000
set_option maxHeartbeats 8000000
/-! Rules for the law's body: slices and sums of tuples with one way out, a call by keywords alone. -/
namespace TK
open PySem PySem.Spec L2
open PyProof.Rows TL
section
variable {X : Cx}
theorem sl_tupU : SlR X (fun x lo hi H Q => ∃ a xs, x = .ref a ∧ SqT X.K H a xs ∧ ∀ p H', Same H H' → SqT X.K H' p (cutV xs lo hi) → Q (.ref p) H') := by
  intro pins s σ H x v vl vu lo hi sl Q I rx hs pl pu h
  obtain ⟨a, xs, rfl, hx, q⟩ := h
  refine sl_tupA pins s σ H _ v vl vu lo hi sl Q I rx hs pl pu ⟨a, xs, rfl, hx, fun hw => q a H (Same.refl _) ?_, fun _ p np => q p _ (Same.new np) (.inl (.inl upd_same))⟩
  have e : cutV xs lo hi = xs := by
    unfold cutV
    rw [hw.1, hw.2, List.drop_zero, Nat.sub_zero, List.take_length]
  rw [e]
  exact hx
theorem op_catU : OpR X (binaryOp .Add) (fun x y H Q => ∃ a b xs ys, x = .ref a ∧ y = .ref b ∧ SqT X.K H a xs ∧ SqT X.K H b ys ∧ xs.length + ys.length ≤ sizeLine ∧ ∀ p H', Same H H' → SqT X.K H' p (xs ++ ys) → Q (.ref p) H') := by
  intro pins s σ H x y v u Q I rx ry h
  obtain ⟨a, b, xs, ys, rfl, rfl, ha, hb, hz, q⟩ := h
  refine op_catA pins s σ H _ _ v u Q I rx ry ⟨a, b, xs, ys, rfl, rfl, ha, hb, hz, fun e => q b H (Same.refl _) (by rw [e]; exact hb), fun _ e => q a H (Same.refl _) (by rw [e, List.append_nil]; exact ha), fun _ _ p np => q p _ (Same.new np) (.inl (.inl upd_same))⟩
end
/-- a def that is called by keywords alone -/
structure KeepsK (P : Program) (w : World) (K : PySem.W.Frag) (mg : Str → Option Value) (base : Heap) (k : Nat) (x : Str) (ps ks : List Str) (g : List Value → List Value → List Value) (gV : List V → List V → List V) (sp : Sp) : Prop where
  ex : ∃ f fd, mg x = some (.ref f) ∧ PySem.W.keepIn K (.ref f) = true ∧ KBinds K fd ps ks g gV ∧ FnOk P w K mg base CX0 k f fd ps sp
section
variable {X : Cx} {k : Nat} {x : Str} {ps ks : List Str} {g : List Value → List Value → List Value} {gV : List V → List V → List V} {sp : Sp} {p pos : Pos} {kws : List Keyword} {tk : TA}
theorem pe_defK (c : KeepsK X.prog X.w X.K X.mg X.base k x ps ks g gV sp) (hr : Room k X.A) (hg : Gl X x) (hkw : PK X kws tk) (hall : (backToKw pos (keywordEach kws X.env)).all (·.1.isSome) = true := by rfl)
    (hks : (backToKw pos (keywordEach kws X.env)).filterMap (·.1) = ks := by rfl) (hdb : (x == ("__debug__" : Str)) = false := by decide)
    (hpl : ((backTo pos (starEach [] X.env)).any (·.1) || (backToKw pos (keywordEach kws X.env)).any (·.1.isNone)) = false := by rfl) :
    PE X (.Call (.Name x p) [] kws pos) (fun σ H Q => tk σ H fun zs H2 => sp (gV [] zs) H2 Q E0) :=
  let ⟨_, _, h1, h2, h3, h4⟩ := c.ex
  pe_callK0 h4 hr hg h1 h2 h3 pass0 hkw hall hks hdb hpl
end
/-- trained(n=.., texts=..) -/
def swapV : List V → List V → List V
  | [], [a, b] => [b, a]
  | _, _ => []
def swapU : List Value → List Value → List Value
  | [], [a, b] => [b, a]
  | _, _ => []
theorem yes_go {te : TE} {σ : L2.St} {H : Hp} {Q : VK} {R : Hp → Prop} (h : te σ H Q) : tYes σ H fun b H3 => if b = true then te σ H3 Q else R H3 := by
  unfold tYes
  simp only [if_true]
  exact h
theorem erase_perm {α : Type} : ∀ {l : List α} {i : Nat} {x : α}, l[i]? = some x → (x :: l.eraseIdx i).Perm l
  | [], _, _, h => by simp at h
  | a :: l, 0, x, h => by
    have e : a = x := Option.some.inj h
    subst e
    exact List.Perm.refl _
  | a :: l, i + 1, x, h => by
    have ih := erase_perm (l := l) (i := i) (x := x) h
    show (x :: a :: l.eraseIdx i).Perm (a :: l)
    exact (List.Perm.swap a x _).trans (ih.cons a)
theorem erase_map {α β : Type} (f : α → β) : ∀ (l : List α) (i : Nat), (l.map f).eraseIdx i = (l.eraseIdx i).map f
  | [], _ => rfl
  | _ :: _, 0 => rfl
  | a :: l, i + 1 => by
    show f a :: (l.map f).eraseIdx i = f a :: (l.eraseIdx i).map f
    rw [erase_map f l i]
theorem cut_first (c : Nat) (r : List Nat) : cutS (sT (c :: r)) none (some 1) = sT [c] := by
  unfold cutS
  rw [sT_list, HT.sIx_none, show HT.sIx (sT (c :: r)).length (sT (c :: r)).length (some 1) = min 1 (sT (c :: r)).length from HT.sIx_nat _ _ 1, sT_len, List.length_cons, Nat.min_eq_left (by omega)]
  rfl
theorem cut_to {α : Type} (f : α → V) (xs : List α) (k : Nat) : cutV (xs.map f) none (some (k : Int)) = (xs.take k).map f := by
  unfold cutV
  rw [HT.sIx_none, HT.sIx_nat, List.drop_zero, Nat.sub_zero, List.length_map, List.map_take]
  by_cases h : k ≤ xs.length
  · rw [Nat.min_eq_left h]
  · rw [Nat.min_eq_right (by omega), List.take_of_length_le (by rw [List.length_map]; exact Nat.le_refl _), List.take_of_length_le (by rw [List.length_map]; omega)]
theorem Prs.take {K : PySem.W.Frag} {H : Hp} {bs : List Addr} {ms : List P2} (h : Prs K H bs ms) (k : Nat) : Prs K H (bs.take k) (ms.take k) := by
  refine ⟨by rw [List.length_take, List.length_take, h.1], fun i b m h1 h2 => ?_⟩
  rw [List.getElem?_take] at h1 h2
  split at h1
  · rename_i hi
    rw [if_pos hi] at h2
    exact h.2 i b m h1 h2
  · cases h1
theorem pick_n {r : Nat} {v : V} (h : v ∈ [V.int 2, .int 4, .int 7, .int 10, .int 1, .int 0, nV r, .int 11, .int (10 ^ (29 : Int).toNat)]) : ∃ n : Nat, v = nV n := by
  simp only [List.mem_cons, List.not_mem_nil, or_false] at h
  rcases h with e | e | e | e | e | e | e | e | e
  · exact ⟨2, e⟩
  · exact ⟨4, e⟩
  · exact ⟨7, e⟩
  · exact ⟨10, e⟩
  · exact ⟨1, e⟩
  · exact ⟨0, e⟩
  · exact ⟨r, e⟩
  · exact ⟨11, e⟩
  · exact ⟨10 ^ 29, e.trans (by unfold nV; congr 1)⟩
theorem offV {K : PySem.W.Frag} {H : Hp} {a S : Addr} {ls : List Nat} {ms : List P2} {ys : List V} {o : HO} (h : Voc K H a ls ms) (e : H S = some (.lst ys)) : Voc K (upd H S o) a ls ms :=
  let ⟨m, bs, h1, h2, h3⟩ := h
  ⟨m, bs, offT h1 e, offT h2 e, h3.1, fun i b x g1 g2 => offT (h3.2 i b x g1 g2) e⟩
/-- what one turn of the law holds: the deck, the texts, both trainings -/
structure Held (K : PySem.W.Frag) (H : Hp) (d l t v1 v2 : Addr) (ts : List (List Nat)) (ls : List Nat) (n : Nat) : Prop where
  dk : Deck H d l
  hT : SqT K H t (ts.map sV)
  h1 : Voc K H v1 ls (trained ls ts n)
  h2 : Voc K H v2 ls (trained ls ts n)
theorem Held.same {K : PySem.W.Frag} {H H' : Hp} {d l t v1 v2 : Addr} {ts : List (List Nat)} {ls : List Nat} {n : Nat} (h : Held K H d l t v1 v2 ts ls n) (s : Same H H') : Held K H' d l t v1 v2 ts ls n :=
  ⟨h.dk.same s, Same.tup s h.hT, h.h1.same s, h.h2.same s⟩
theorem Held.rest {K : PySem.W.Frag} {H H' : Hp} {d l t v1 v2 : Addr} {ts : List (List Nat)} {ls : List Nat} {n : Nat} (h : Held K H d l t v1 v2 ts ls n) (dk : Deck H' d l) (r : Rest d l H H') : Held K H' d l t v1 v2 ts ls n :=
  ⟨dk, restT h.dk r h.hT, restV h.dk r h.h1, restV h.dk r h.h2⟩
theorem Held.off {K : PySem.W.Frag} {H : Hp} {d l t v1 v2 S : Addr} {ts : List (List Nat)} {ls : List Nat} {n : Nat} {ys : List V} {o : HO} (h : Held K H d l t v1 v2 ts ls n) (e : H S = some (.lst ys)) (n1 : S ≠ d) (n2 : S ≠ l) : Held K (upd H S o) d l t v1 v2 ts ls n := by
  refine ⟨?_, offT h.hT e, offV h.h1 e, offV h.h2 e⟩
  obtain ⟨mx, k, ns, h1, h2, h3⟩ := h.dk.ex
  exact ⟨mx, k, ns, by rw [upd_ne n1.symm]; exact h1, by rw [upd_ne n2.symm]; exact h2, h3⟩
theorem txts_more {ts zs : List (List Nat)} {ls : List Nat} (X : Txts ts ls) (h : zs.Perm (ts ++ [[]])) (h6 : ts.length ≤ 6) : Txts zs ls := by
  have hf : zs.flatten.Perm (ts ++ [[]]).flatten := h.flatten
  have e : (ts ++ [[]]).flatten = ts.flatten := by simp
  rw [e] at hf
  exact ⟨by rw [h.length_eq, List.length_append, List.length_singleton]; omega, by rw [hf.length_eq]; exact X.short, lets_perm X.lets fun c => hf.mem_iff.symm, X.ls⟩
end TK
end
section
set_option Elab.async false
set_option linter.all false
set_option maxRecDepth 100000
set_option maxHeartbeats 8000000
/-! The law's walk. -/
namespace TK
open PySem PySem.Spec L2
open PyProof.Rows TL
abbrev st_law : Stmt := topS 45
abbrev nLaw : List Str := ["_law_script", "_law_deck_here", "_law_turn", "_law_letters_here", "_law_texts", "_law_n", "_law_due", "_law_told", "_law_fewer", "_law_left", "_law_some", "_law_at", "_law_text", "_law_tokens_here"]
theorem sc_law : FnScope nLaw ["_law_script"] (defScope st_law) := ⟨rfl, rfl, rfl, by decide +kernel, rfl, by decide +kernel, by decide +kernel⟩
def forBody : Stmt → List Stmt
  | .For _ _ b _ _ => b
  | _ => []
structure LK (P : Program) (w : World) (K : PySem.W.Frag) (mg : Str → Option Value) (base : Heap) : Prop where
  deck : Keeps P w K mg base 1 "_law_deck" ["_law_script", "_law_seed"] (sp_law_deck K)
  draw : Keeps P w K mg base 1 "_law_draw" ["_law_deck_here", "_law_many"] sp_law_draw
  pick : Keeps P w K mg base 2 "_law_pick" ["_law_deck_here", "_law_some"] sp_law_pick
  letters : Keeps P w K mg base 2 "_law_letters" ["_law_deck_here", "_law_most"] sp_law_letters
  drawn : Keeps P w K mg base 3 "_law_drawn_text" ["_law_deck_here", "_law_letters_here", "_law_most"] sp_law_drawn_text
  ltok : Keeps P w K mg base 2 "_law_tokens" ["_law_vocabulary", "_law_text"] (sp_law_tokens K)
  ltr : Keeps P w K mg base 2 "_law_trained" ["_law_texts", "_law_n"] (sp_trained_raw K)
  tr : Keeps P w K mg base 4 "trained" ["texts", "n"] (sp_trained_raw K)
  trK : KeepsK P w K mg base 4 "trained" ["texts", "n"] ["n", "texts"] swapU swapV (sp_trained_raw K)
  isv : Keeps P w K mg base 5 "is_vocabulary" ["thing"] (sp_is_vocabulary_value K)
  size : Keeps P w K mg base 6 "size" ["vocabulary"] (sp_size K)
  totok : Keeps P w K mg base 7 "to_tokens" ["vocabulary", "text"] (sp_to_tokens K)
  totext : Keeps P w K mg base 6 "to_text" ["vocabulary", "tokens"] (sp_text_raw K)
section
variable {P : Program} {w : World} {K : PySem.W.Frag} {mg : Str → Option Value} {base : Heap}
abbrev XL (P : Program) (w : World) (K : PySem.W.Frag) (mg : Str → Option Value) (base : Heap) (f : Addr) (cdv : Value) (s : Shared) (H : Hp) (E : XK) : Cx := (cxOf CX0 P w K mg base nLaw "law" (defScope st_law) f cdv callerA [] s H E).nox
def InvL (a d l : Addr) (σ : L2.St) (H : Hp) : Prop := ∃ y2 y3 y4 y5 y6 y7 y8 y9 y10 y11 y12 y13, σ = [some (.ref a), some (.ref d), y2, y3, y4, y5, y6, y7, y8, y9, y10, y11, y12, y13] ∧ Deck H d l
theorem law_tail (G : Names mg) (L : LK P w K mg base) {f : Addr} {cdv : Value} {s : Shared} {H : Hp} {E : XK} (hr : Room 7 (callerA.deeper (envOfC "law" (defScope st_law) s.heap.objs.size f cdv))) :
    ∃ tt, PSs (XL P w K mg base f cdv s H E) ((forBody ((defBody st_law).getD 1 (.Pass ⟨0, 0, 0, 0⟩))).drop 3) tt ∧ ∀ (D : Ends) (a d l t : Addr) (ts : List (List Nat)) (y2 y3 y5 y6 y7 y8 y9 y10 y11 y12 y13 : Option V) (H1 : Hp), (∀ σ' H', InvL a d l σ' H' → D.nx σ' H') → Deck H1 d l → SqT K H1 t (ts.map sV) → ts.length ≤ 6 →
      ts.flatten ≠ [] → ts.flatten.length ≤ 400 → (∀ c ∈ ts.flatten, Low c) → tt D [some (.ref a), some (.ref d), y2, y3, some (.ref t), y5, y6, y7, y8, y9, y10, y11, y12, y13] H1 := by
  have nd := sc_law.nd
  refine ⟨_, (pss_cons (ps_set (i := 5) nd rfl (.inl rfl) (pe_def L.pick (hr.mono (by decide)) (by rfl) (pa_cons (pv 1) (pa_cons (pe_lst (pa_cons pe_int (pa_cons pe_int (pa_cons pe_int (pa_cons pe_int (pa_cons pe_int (pa_cons pe_int (pa_cons (pe_def L.draw (hr.mono (by decide)) (by rfl) (pa_cons (pv 1) (pa_cons pe_int pa_nil))) (pa_cons pe_int (pa_cons (pe_op op_pow pe_int pe_int) pa_nil)))))))))) pa_nil))))
      (pss_cons (ps_set (i := 6) nd rfl (.inl rfl) (pe_def L.ltr (hr.mono (by decide)) (by rfl) (pa_cons (pv 4) (pa_cons (pv 5) pa_nil))))
      (pss_cons (ps_set (i := 7) nd rfl (.inl rfl) (pe_def L.tr (hr.mono (by decide)) (by rfl) (pa_cons (pv 4) (pa_cons (pv 5) pa_nil))))
      (pss_cons (ps_if (PW.pt (pw_or (pt_cmpR op_ne (pe_callB (cr_reprD rfl hr.units) (by rfl) (G.blt _ (by decide)) (by decide +kernel) (pa_cons (pe_tup (pa_cons (pv 7) (pa_cons (pe_defK L.trK (hr.mono (by decide)) (by rfl) (pk_cons (pv 5) (pk_cons (pv 4) pk_nil))) pa_nil))) pa_nil)) (pe_callB (cr_reprD rfl hr.units) (by rfl) (G.blt _ (by decide)) (by decide +kernel) (pa_cons (pe_tup (pa_cons (pv 6) (pa_cons (pv 6) pa_nil))) pa_nil)) (nomark _)) (pw_or1 (pt_cmpR op_isnot_bl (pe_def L.isv (hr.mono (by decide)) (by rfl) (pa_cons (pv 7) pa_nil)) pe_bl (nomark _))))) (pss_one (ps_ret pe_bl)) pss_nil)
      (pss_cons (ps_if (pt_cmpR op_ne (pe_def L.size (hr.mono (by decide)) (by rfl) (pa_cons (pv 7) pa_nil)) (pe_op op_add (pe_op op_add pe_int (pe_callB call_len_str (by rfl) (G.blt _ (by decide)) PySem.boot_len (pa_cons (pe_ix (r := rIxT K) ix_tup (pv 6) pe_int (fun _ _ => rfl)) pa_nil))) (pe_callB call_len_seq (by rfl) (G.blt _ (by decide)) PySem.boot_len (pa_cons (pe_ix (r := rIxT K) ix_tup (pv 6) pe_int (fun _ _ => rfl)) pa_nil))) (nomark _)) (pss_one (ps_ret pe_bl)) pss_nil)
      (pss_cons (ps_set (i := 8) nd rfl (.inl rfl) (pe_def L.draw (hr.mono (by decide)) (by rfl) (pa_cons (pv 1) (pa_cons (pe_op op_add (pe_callB (call_min2 rfl) (by rfl) (G.blt _ (by decide)) (by decide +kernel) (pa_cons (pv 5) (pa_cons pe_int pa_nil))) pe_int) pa_nil))))
      (pss_cons (ps_if (pt_cmpR op_ne (pe_callB (cr_reprD rfl hr.units) (by rfl) (G.blt _ (by decide)) (by decide +kernel) (pa_cons (pe_def L.tr (hr.mono (by decide)) (by rfl) (pa_cons (pv 4) (pa_cons (pv 8) pa_nil))) pa_nil)) (pe_callB (cr_reprD rfl hr.units) (by rfl) (G.blt _ (by decide)) (by decide +kernel) (pa_cons (pe_op op_catU (pe_slice sl_tupU (pv 6) po_none (po_some pe_int)) (pe_tup (pa_cons (pe_slice sl_tupU (pe_ix (r := rIxT K) ix_tup (pv 6) pe_int (fun _ _ => rfl)) po_none (po_some (pv 8))) pa_nil))) pa_nil)) (nomark _)) (pss_one (ps_ret pe_bl)) pss_nil)
      (pss_cons (ps_par (i := 9) (j := 10) rfl nd rfl rfl (by decide) rfl rfl (pa_cons (pe_op op_cat (pe_callTy call_list_of (by rfl) (G.blt _ (by decide)) boot_list (pa_cons (pv 4) pa_nil)) (pe_lst (pa_cons pe_str pa_nil))) (pa_cons (pe_lst pa_nil) pa_nil)) (by rfl))
      (pss_cons (ps_for PassesOwn.never rfl (pi_range1 (by rfl) (G.blt _ (by decide)) (pa_cons (pe_op op_add (pe_callB call_len_seq (by rfl) (G.blt _ (by decide)) PySem.boot_len (pa_cons (pv 4) pa_nil)) pe_int) pa_nil)) (pg_name (i := 11) nd rfl (.inl rfl)) (pss_one (ps_expr (pe_bm PySem.F.plainAttrs_list PySem.F.slot_list_append PySem.F.type_list_append mt_append (pv 10) (pa_cons (pe_bm PySem.F.plainAttrs_list PySem.F.slot_list_pop PySem.F.type_list_pop mt_popAt (pv 9) (pa_cons (pe_def L.draw (hr.mono (by decide)) (by rfl) (pa_cons (pv 1) (pa_cons (pe_callB call_len_seq (by rfl) (G.blt _ (by decide)) PySem.boot_len (pa_cons (pv 9) pa_nil)) pa_nil))) pa_nil)) pa_nil)))))
      (pss_cons (ps_if (pt_cmpR op_ne (pe_callB (cr_reprD rfl hr.units) (by rfl) (G.blt _ (by decide)) (by decide +kernel) (pa_cons (pe_def L.tr (hr.mono (by decide)) (by rfl) (pa_cons (pe_callTy call_tuple_of (by rfl) (G.blt _ (by decide)) boot_tuple (pa_cons (pv 10) pa_nil)) (pa_cons (pv 5) pa_nil))) pa_nil)) (pe_callB (cr_reprD rfl hr.units) (by rfl) (G.blt _ (by decide)) (by decide +kernel) (pa_cons (pv 6) pa_nil)) (nomark _)) (pss_one (ps_ret pe_bl)) pss_nil)
      (pss_one (ps_for PassesOwn.never rfl (pi_tup (pv 4)) (pg_name (i := 12) nd rfl (.inl rfl)) (pss_cons (ps_set (i := 13) nd rfl (.inl rfl) (pe_def L.totok (hr.mono (by decide)) (by rfl) (pa_cons (pv 7) (pa_cons (pv 12) pa_nil))))
      (pss_one (ps_if (PW.pt (pw_or (pt_cmpR op_ne (pe_callB (cr_reprD rfl hr.units) (by rfl) (G.blt _ (by decide)) (by decide +kernel) (pa_cons (pv 13) pa_nil)) (pe_callB (cr_reprD rfl hr.units) (by rfl) (G.blt _ (by decide)) (by decide +kernel) (pa_cons (pe_def L.ltok (hr.mono (by decide)) (by rfl) (pa_cons (pv 6) (pa_cons (pv 12) pa_nil))) pa_nil)) (nomark _)) (pw_or1 (pt_cmpR op_ne (pe_def L.totext (hr.mono (by decide)) (by rfl) (pa_cons (pv 7) (pa_cons (pv 13) pa_nil))) (pv 12) (nomark _))))) (pss_one (ps_ret pe_bl)) pss_nil))))))))))))))), ?_⟩
  intro D a d l t ts y2 y3 y5 y6 y7 y8 y9 y10 y11 y12 y13 H1 hD dk hT h6 hne h400 hlow
  obtain ⟨ls, hL, hls, hlsl⟩ := lets_there hlow hne
  have X : Txts ts ls := ⟨by omega, by omega, hL, hls⟩
  have l6 := hls.most
  have hmem : ∀ x ∈ ts, ∀ c ∈ x, c ∈ ls := fun x hx c hc => (hL.2 c).mpr (List.mem_flatten.mpr ⟨x, hx, hc⟩)
  have hl1000 : ∀ c ∈ ls, c < 1000 := fun c hc => by
    have := hls.low c hc
    omega
  -- n
  refine ⟨_, rfl, _, rfl, d, l, 11, rfl, dk, by decide, by decide, fun H2 r dk2 r2 hr2 => ⟨10, 29, rfl, rfl, ⟨by decide, by decide, by decide⟩, by show 9 ≤ sizeLine; decide, fun p np => ?_⟩⟩
  obtain ⟨pd, pl⟩ := dk2.off np
  have sp := Same.new (o := .lst [V.int 2, .int 4, .int 7, .int 10, .int 1, .int 0, nV r, .int 11, .int (10 ^ (29 : Int).toNat)]) np
  refine ⟨d, l, p, _, rfl, dk2.same sp, upd_same, pd, pl, by show 1 ≤ 9; decide, by show 9 ≤ 1000; decide, fun H3 v dk3 r3 hv => ?_⟩
  obtain ⟨n, rfl⟩ := pick_n hv
  have hT3 := restT (dk2.same sp) r3 (Same.tup sp (restT dk r2 hT))
  have gd := good_trained X n
  have sv : ∀ m, Sh (vocD ls (trained ls ts m)) 3 1000 := fun m => sh_voc l6 hl1000 (trained_len ls ts m) (good_trained X m).ok
  -- due, told
  refine ⟨_, rfl, _, rfl, t, ts, ls, n, rfl, hT3, X, fun H4 v1 s4 h41 => ?_⟩
  refine ⟨_, rfl, _, rfl, t, ts, ls, n, rfl, Same.tup s4 hT3, X, fun H5 v2 s5 h52 => ?_⟩
  have hd5 : Held K H5 d l t v1 v2 ts ls n := ⟨(dk3.same s4).same s5, Same.tup s5 (Same.tup s4 hT3), h41.same s5, h52⟩
  -- told twice, due twice
  have sh2 := shown_ok (ShA.cons (sv n) (ShA.cons (sv n) ShA.nil)).tuple (by decide) (by decide)
  refine ⟨_, rfl, _, rfl, _, rfl, t, ts, ls, n, rfl, hd5.hT, X, fun H6 v3 s6 h63 => ⟨by show 2 ≤ sizeLine; decide, fun T1 nT1 => ?_⟩⟩
  have sT1 := Same.new (o := .tup [.ref v2, .ref v3]) nT1
  have hd7 := (hd5.same s6).same sT1
  refine ⟨T1, .tuple [vocD ls (trained ls ts n), vocD ls (trained ls ts n)], rfl, .tup (.inl (.inl upd_same)) (.cons (dp_voc hd7.h2) (.cons (dp_voc (h63.same sT1)) .nil)), sh2.1, sh2.2.1, sh2.2.2.1, sh2.2.2.2, ?_⟩
  refine ⟨_, rfl, _, rfl, by show 2 ≤ sizeLine; decide, fun T2 nT2 => ?_⟩
  have sT2 := Same.new (o := .tup [.ref v1, .ref v1]) nT2
  have hd8 := hd7.same sT2
  refine ⟨T2, .tuple [vocD ls (trained ls ts n), vocD ls (trained ls ts n)], rfl, .tup (.inl (.inl upd_same)) (.cons (dp_voc hd8.h1) (.cons (dp_voc hd8.h1) .nil)), sh2.1, sh2.2.1, sh2.2.2.1, sh2.2.2.2, ?_⟩
  generalize PyData.shown (.tuple [vocD ls (trained ls ts n), vocD ls (trained ls ts n)]) = S0
  refine ⟨rfl, _, rfl, iteND rfl ?_⟩
  refine ⟨_, rfl, v2, ls, _, rfl, hd8.h2, gd, fun H9 s9 => ⟨true, true, rfl, rfl, _, rfl, iteND rfl ?_⟩⟩
  have hd9 := hd8.same s9
  revert hd9
  generalize H9 = H9
  intro hd9
  -- size
  refine ⟨_, rfl, v2, ls, _, rfl, hd9.h2, gd, fun H10 s10 => ?_⟩
  have hd10 := hd9.same s10
  obtain ⟨m, bs, hV, hM, hP⟩ := id hd10.h1
  refine ⟨_, rfl, v1, _, 1, _, rfl, rfl, hV, at1, sT ls, rfl, by rw [sT_len]; exact line_small (by omega), 1, _, rfl, rfl, _, rfl, v1, _, 2, _, rfl, rfl, hV, at2, m, _, rfl, .inr hM, _, _, rfl, rfl, rfl, _, rfl, ?_⟩
  have esz : V.int (((1 + ls.length + (trained ls ts n).length : Nat) : Int)) = V.int ((1 + ((sT ls).length : Int)) + ((bs.map V.ref).length : Int)) := by
    rw [sT_len, List.length_map, hP.1]
    congr 1
  refine iteND esz ?_
  -- fewer
  have emin : (if (10 : Int) < (n : Int) then (10 : Int) else (n : Int)) + 1 = ((min n 10 + 1 : Nat) : Int) := by
    split <;> omega
  refine ⟨_, rfl, _, rfl, (n : Int), 10, rfl, _, 1, rfl, rfl, d, l, min n 10 + 1, ?_, hd10.dk, by omega, by omega, fun H11 k dk11 r11 hk => ?_⟩
  · show [V.ref d, V.int ((if (10 : Int) < (n : Int) then (10 : Int) else (n : Int)) + 1)] = [V.ref d, V.int ((min n 10 + 1 : Nat) : Int)]
    rw [emin]
  have hd11 := hd10.rest dk11 r11
  have shk := shown_ok (sv k) (by decide) (by decide)
  refine ⟨_, rfl, _, rfl, t, ts, ls, k, rfl, hd11.hT, X, fun H12 v4 s12 h124 => ?_⟩
  have hd12 := hd11.same s12
  obtain ⟨m2, bs2, hV2, hM2, hP2⟩ := id hd12.h1
  refine ⟨v4, _, rfl, dp_voc h124, shk.1, shk.2.1, shk.2.2.1, shk.2.2.2, ?_⟩
  refine ⟨_, rfl, 2, rfl, v1, _, rfl, hV2, fun p1 H13 s13 hp1 => ?_⟩
  refine ⟨_, rfl, v1, _, 2, _, rfl, rfl, Same.tup s13 hV2, at2, _, rfl, (k : Int), rfl, m2, _, rfl, Same.tup s13 hM2, fun p2 H14 s14 hp2 => ⟨by show 1 ≤ sizeLine; decide, fun u nu => ?_⟩⟩
  have su := Same.new (o := .tup [.ref p2]) nu
  refine ⟨p1, u, _, _, rfl, rfl, Same.tup (s14.trans su) hp1, .inl (.inl upd_same), by show 2 + 1 ≤ sizeLine; decide, fun p3 H15 s15 hp3 => ?_⟩
  rw [cut_to] at hp2
  have hp2' := Same.tup (su.trans s15) hp2
  have hd15 := hd12.same (s13.trans (s14.trans (su.trans s15)))
  have hp3' : SqT K H15 p3 [.str "vocabulary", sV ls, .ref p2] := hp3
  have ekt : (trained ls ts n).take k = trained ls ts k := (trained_fewer ls ts (by omega)).symm
  have hvk : Voc K H15 p3 ls (trained ls ts k) := by
    rw [← ekt]
    exact ⟨p2, bs2.take k, hp3', hp2', (hP2.same (s13.trans (s14.trans (su.trans s15)))).take k⟩
  refine ⟨p3, _, rfl, dp_voc hvk, shk.1, shk.2.1, shk.2.2.1, shk.2.2.2, ?_⟩
  generalize PyData.shown (vocD ls (trained ls ts k)) = S0
  refine ⟨rfl, _, rfl, iteND rfl ?_⟩
  -- left, some
  refine ⟨_, rfl, t, _, rfl, .inr hd15.hT, fun l1 nl1 => ⟨by decide, fun l2 nl2 => ?_⟩⟩
  have sl := (Same.new (o := .lst (ts.map sV)) nl1).trans (Same.new (o := .lst [V.str (Str.ofString "")]) nl2)
  have hl1 := Same.new (o := .lst [V.str (Str.ofString "")]) nl2 _ _ (upd_same (H := H15) (a := l1) (o := .lst (ts.map sV)))
  refine ⟨l1, l2, _, _, rfl, rfl, hl1, upd_same, by rw [List.length_map]; exact line_small (by show ts.length + 1 ≤ 1000000; omega), fun Lf nL => ⟨Nat.zero_le _, fun Sm nS => ⟨_, _, rfl, ?_⟩⟩⟩
  have sL := Same.new (o := .lst (ts.map sV ++ [V.str (Str.ofString "")])) nL
  have sS := Same.new (o := .lst []) nS
  have hd16 := ((hd15.same sl).same sL).same sS
  have hLf : upd (upd (upd (upd H15 l1 (.lst (ts.map sV))) l2 (.lst [V.str (Str.ofString "")])) Lf (.lst (ts.map sV ++ [V.str (Str.ofString "")]))) Sm (.lst []) Lf = some (.lst (ts.map sV ++ [V.str (Str.ofString "")])) := sS _ _ upd_same
  have hSm : upd (upd (upd (upd H15 l1 (.lst (ts.map sV))) l2 (.lst [V.str (Str.ofString "")])) Lf (.lst (ts.map sV ++ [V.str (Str.ofString "")]))) Sm (.lst []) Sm = some (.lst []) := upd_same
  have nLd := ((hd15.same sl).dk).off nL
  have nSd := (((hd15.same sl).same sL).dk).off nS
  have nSL : Sm ≠ Lf := (ne_of_none upd_same nS).symm
  revert hd16 hLf hSm
  generalize upd (upd (upd (upd H15 l1 (.lst (ts.map sV))) l2 (.lst [V.str (Str.ofString "")])) Lf (.lst (ts.map sV ++ [V.str (Str.ofString "")]))) Sm (.lst []) = H16
  intro hd16 hLf hSm
  have ets : ts.map sV ++ [V.str (Str.ofString "")] = (ts ++ [[]]).map sV := by
    rw [List.map_append, ← sV_nil]
    rfl
  rw [ets] at hLf
  -- the shuffled texts
  have elen : (((ts.map sV).length : Int) + 1).toNat = ts.length + 1 := by
    rw [List.length_map]
    omega
  refine ⟨_, rfl, t, _, rfl, .inr hd16.hT, _, 1, rfl, rfl, _, rfl, by rw [List.length_map]; omega, by rw [List.length_map]; omega, ?_⟩
  refine for_range (lo := 0) (n := (((ts.map sV).length : Int) + 1).toNat) (fun i σ H => ∃ z11 z12 z13 xs ys, σ = [some (.ref a), some (.ref d), y2, y3, some (.ref t), some (nV n), some (.ref v1), some (.ref v2), some (nV k), some (.ref Lf), some (.ref Sm), z11, z12, z13] ∧ Held K H d l t v1 v2 ts ls n ∧ H Lf = some (.lst (xs.map sV)) ∧ H Sm = some (.lst (ys.map sV)) ∧ (ys ++ xs).Perm (ts ++ [[]]) ∧ ys.length = i)
    ⟨_, _, _, ts ++ [[]], [], rfl, hd16, hLf, hSm, List.Perm.refl _, rfl⟩ (fun i σ H17 hi ⟨z11, z12, z13, xs, ys, es, hd17, hL17, hS17, hp17, hy17⟩ => ?_) fun σ H17 ⟨z11, z12, z13, xs, ys, es, hd17, hL17, hS17, hp17, hy17⟩ => ?_
  · subst es
    rw [elen] at hi
    have hxl : xs.length + ys.length = ts.length + 1 := by
      have := hp17.length_eq
      rw [List.length_append, List.length_append, List.length_singleton] at this
      omega
    refine ⟨_, rfl, .inl ⟨rfl, _, .inl (.inl hS17)⟩, _, rfl, .inl ⟨rfl, _, .inl (.inl hL17)⟩, _, rfl, _, rfl, Lf, _, rfl, .inl (.inl (.inl hL17)), d, l, xs.length, by rw [List.length_map]; rfl, hd17.dk, by omega, by omega, fun H18 r18 dk18 rs18 hr18 => ?_⟩
    have hd18 := hd17.rest dk18 rs18
    have hL18 := rs18 _ _ nLd.1 nLd.2 hL17
    have hS18 := rs18 _ _ nSd.1 nSd.2 hS17
    have hx18 : xs[r18]? = some xs[r18] := List.getElem?_eq_getElem hr18
    have hg : (xs.map sV)[r18]? = some (sV xs[r18]) := by
      rw [List.getElem?_map, hx18]
      rfl
    refine ⟨Lf, _, _, r18, _, rfl, rfl, hL18, by omega, by omega, sIdx (by rw [List.length_map]; exact hr18), hg, ?_⟩
    have eer : (xs.map sV).eraseIdx r18 = (xs.eraseIdx r18).map sV := erase_map sV xs r18
    rw [eer]
    have hd19 := hd18.off (o := .lst ((xs.eraseIdx r18).map sV)) hL18 nLd.1 nLd.2
    have hS19 : upd H18 Lf (.lst ((xs.eraseIdx r18).map sV)) Sm = some (.lst (ys.map sV)) := by rw [upd_ne nSL]; exact hS18
    have hL19 : upd H18 Lf (.lst ((xs.eraseIdx r18).map sV)) Lf = some (.lst ((xs.eraseIdx r18).map sV)) := upd_same
    refine ⟨Sm, _, _, rfl, rfl, hS19, by rw [List.length_map]; exact line_lt (by omega), some (.int (0 + (i : Int))), z12, z13, xs.eraseIdx r18, ys ++ [xs[r18]], rfl, hd19.off hS19 nSd.1 nSd.2, ?_, ?_, ?_, by rw [List.length_append, List.length_singleton, hy17]⟩
    · rw [upd_ne nSL.symm]
      exact hL19
    · rw [upd_same, List.map_append]
      rfl
    · rw [List.append_assoc]
      exact (List.Perm.append_left ys (erase_perm hx18)).trans hp17
  subst es
  rw [elen] at hy17
  have hxs : xs = [] := by
    have := hp17.length_eq
    rw [List.length_append, List.length_append, List.length_singleton] at this
    exact List.length_eq_zero_iff.mp (by omega)
  subst hxs
  rw [List.append_nil] at hp17
  have Xz := txts_more X hp17 h6
  have shn := shown_ok (sv n) (by decide) (by decide)
  refine ⟨_, rfl, Sm, _, rfl, .inl ⟨.inl (.inl hS17), fun u nu => ?_⟩⟩
  have su2 := Same.new (o := .tup (ys.map sV)) nu
  have hd18 := hd17.same su2
  refine ⟨_, rfl, u, ys, ls, n, rfl, .inl (.inl upd_same), Xz, fun H19 v5 s19 h195 => ?_⟩
  rw [trained_perm n hp17] at h195
  have hd19 := hd18.same s19
  refine ⟨v5, _, rfl, dp_voc h195, shn.1, shn.2.1, shn.2.2.1, shn.2.2.2, _, rfl, v1, _, rfl, dp_voc hd19.h1, shn.1, shn.2.1, shn.2.2.1, shn.2.2.2, ?_⟩
  generalize PyData.shown (vocD ls (trained ls ts n)) = S0
  refine ⟨rfl, _, rfl, iteND rfl ?_⟩
  -- text by text
  refine ⟨_, rfl, t, rfl, ⟨_, hd19.hT⟩, ?_⟩
  refine for_tup (xs := ts.map sV) (fun i σ H => ∃ z12 z13, σ = [some (.ref a), some (.ref d), y2, y3, some (.ref t), some (nV n), some (.ref v1), some (.ref v2), some (nV k), some (.ref Lf), some (.ref Sm), z11, z12, z13] ∧ Held K H d l t v1 v2 ts ls n) ⟨_, _, rfl, hd19⟩ (fun i σ H _ ⟨_, _, _, h⟩ => h.hT)
    (fun i x σ H20 hx ⟨z12, z13, es, hd20⟩ => ?_) fun σ H20 ⟨z12, z13, es, hd20⟩ => ?_
  · subst es
    rw [List.getElem?_map] at hx
    cases hc : ts[i]? with
    | none => rw [hc] at hx; cases hx
    | some z =>
      rw [hc] at hx
      have ex : sV z = x := Option.some.inj hx
      subst ex
      have hzm := List.mem_of_getElem? hc
      have hzl := part_le hzm
      have hzc := hmem z hzm
      have htb : Below (1 + ls.length + (trained ls ts n).length) (tokens ls (trained ls ts n) z) := tokens_below _ hzc
      have htl := tokens_len ls (trained ls ts n) z
      have hms := gd.few
      have shr := shown_ok (sh_row (r := tokens ls (trained ls ts n) z) (by omega) fun t ht => by have := (htb t ht).2; omega) (by decide) (by decide)
      refine ⟨_, rfl, _, rfl, v2, ls, _, z, rfl, hd20.h2, gd, by omega, hzc, fun H21 tk s21 hk21 => ?_⟩
      have hd21 := hd20.same s21
      refine ⟨_, rfl, tk, .tuple ((tokens ls (trained ls ts n) z).map nD), rfl, .tup hk21 (dp_ints _), shr.1, shr.2.1, shr.2.2.1, shr.2.2.2, ?_⟩
      refine ⟨_, rfl, _, rfl, v1, ls, _, z, rfl, hd21.h1, l6, by omega, hzc, fun H22 tk2 s22 hk22 => ?_⟩
      have hd22 := hd21.same s22
      refine ⟨tk2, .tuple ((tokens ls (trained ls ts n) z).map nD), rfl, .tup hk22 (dp_ints _), shr.1, shr.2.1, shr.2.2.1, shr.2.2.2, ?_⟩
      generalize PyData.shown (.tuple ((tokens ls (trained ls ts n) z).map nD)) = S0
      refine ⟨rfl, _, rfl, iteND rfl ?_⟩
      refine ⟨_, rfl, _, rfl, v2, tk, ls, _, _, rfl, hd22.h2, gd, Same.tup s22 hk21, by omega, fun t ht => (htb t ht).2, fun H23 s23 => ?_⟩
      rw [text_back gd.ok hzc]
      exact ⟨_, rfl, rfl, _, rfl, iteND rfl ⟨_, _, rfl, hd22.same s23⟩⟩
  · subst es
    exact hD _ _ ⟨_, _, _, _, _, _, _, _, _, _, _, _, rfl, hd20.dk⟩
theorem law_walk (G : Names mg) (L : LK P w K mg base) {f : Addr} {cdv : Value} {s : Shared} {H : Hp} {E : XK} {Q : VK} {a : Addr} {ns : List Int} (hr : Room 7 (callerA.deeper (envOfC "law" (defScope st_law) s.heap.objs.size f cdv))) (hA : SqL K H a (ns.map V.int)) (q : ∀ H', Q (.bl true) H') :
    ∃ t, PSs (XL P w K mg base f cdv s H E) (defBody st_law) t ∧ t { nx := fun _ H' => Q .non H', rt := Q } (L2.start nLaw [.ref a]) H := by
  have nd := sc_law.nd
  obtain ⟨tt, hTail, hq⟩ := law_tail (P := P) (w := w) (K := K) (mg := mg) (base := base) G L (f := f) (cdv := cdv) (s := s) (H := H) (E := E) hr
  refine ⟨_, (pss_cons (ps_set (i := 1) nd rfl (.inr rfl) (pe_def L.deck (hr.mono (by decide)) (by rfl) (pa_cons (pv 0) (pa_cons pe_int pa_nil))))
      (pss_cons (ps_for PassesOwn.never rfl (pi_range1 (by rfl) (G.blt _ (by decide)) (pa_cons pe_int pa_nil)) (pg_name (i := 2) nd rfl (.inl rfl)) (pss_cons (ps_set (i := 3) nd rfl (.inr rfl) (pe_def L.letters (hr.mono (by decide)) (by rfl) (pa_cons (pv 1) (pa_cons pe_int pa_nil))))
 (pss_cons (ps_set (i := 4) nd rfl (.inl rfl) (pe_callTy call_tuple_of (by rfl) (G.blt _ (by decide)) boot_tuple (pa_cons (pe_lc (own := [("_law_at", 11)]) (g := gName 11) (tt := tYes) rfl nd (pi_range1 (by rfl) (G.blt _ (by decide)) (pa_cons (pe_op op_add pe_int (pe_def L.draw (hr.mono (by decide)) (by rfl) (pa_cons (pv 1) (pa_cons pe_int pa_nil)))) pa_nil)) (blkOk_by (N := nLaw) (sc := defScope st_law) (by decide +kernel)) (fun _ _ _ _ _ => (pg_name (i := 11) nd rfl (.inl rfl))) (fun _ _ _ _ _ => pts_nil) (fun _ _ _ _ _ => pe_def L.drawn (hr.mono (by decide)) (by rfl) (pa_cons (pv 1) (pa_cons (pv 3) (pa_cons pe_int pa_nil))))) pa_nil)))
 (pss_cons (ps_set (i := 4) nd rfl (.inl rfl) (pe_ifExp (pt_cmpR op_ne (pe_join pe_str (pv 4)) pe_str (nomark _)) (pv 4) (pe_op op_catU (pv 4) (pe_tup (pa_cons (pe_op op_mulS (pe_slice sl_str (pv 3) po_none (po_some pe_int)) (pe_op op_add pe_int (pe_def L.draw (hr.mono (by decide)) (by rfl) (pa_cons (pv 1) (pa_cons pe_int pa_nil))))) pa_nil))))) hTail))))
      (pss_one (ps_ret pe_bl)))), ?_⟩
  refine ⟨_, rfl, a, ns, 14408003, rfl, hA, by decide, by decide, fun H1 d l s1 nd0 nl0 dk => ?_⟩
  refine ⟨2, rfl, by decide, by decide, ?_⟩
  refine for_range (lo := 0) (n := ((2 : Int)).toNat) (fun i σ H => InvL a d l σ H) ⟨_, _, _, _, _, _, _, _, _, _, _, _, rfl, dk⟩ (fun i σ H2 hi h2 => ?_) fun σ H2 h2 => ?_
  · obtain ⟨y2, y3, y4, y5, y6, y7, y8, y9, y10, y11, y12, y13, rfl, dk2⟩ := h2
    refine ⟨_, rfl, d, l, rfl, dk2, fun H3 x dk3 r3 hx0 hx6 hlow => ?_⟩
    -- the texts
    refine ⟨_, rfl, d, l, 5, rfl, dk3, by decide, by decide, fun H4 r dk4 r4 hr4 => ⟨1, _, rfl, rfl, _, rfl, by omega, by omega, fun D hD => ?_⟩⟩
    have er : (1 + (r : Int)).toNat = 1 + r := by omega
    obtain ⟨Dd, Dl⟩ := dk4.off hD
    refine lc_it (walk_range (lo := 0) (n := (1 + (r : Int)).toNat)) (fun i H => Deck H d l ∧ ∃ ys : List (List Nat), H D = some (.lst (ys.map sV)) ∧ ys.length = i ∧ ∀ y ∈ ys, y.length ≤ 60 ∧ ∀ c ∈ y, c ∈ x) ⟨dk4.same (Same.new hD), [], upd_same, rfl, fun y hy => nomatch hy⟩ (fun _ _ _ _ => trivial)
      (fun i5 v H5 H6 hi5 ⟨dk5, ys, e5, l5, g5⟩ Y => ?_) fun H5 ⟨dk5, ys, e5, l5, g5⟩ => ?_
    · obtain ⟨rfl, rfl⟩ := Y
      rw [er] at hi5
      refine ⟨rfl, yes_go ?_⟩
      refine ⟨_, rfl, _, rfl, d, l, x, rfl, dk5, hx0, hx6, fun H7 y dk7 r7 hy1 hy2 => ⟨ys.map sV, r7 _ _ Dd Dl e5, ?_, ?_, ys ++ [y], ?_, ?_, fun z hz => ?_⟩⟩
      · rw [List.length_map]
        exact line_lt (by omega)
      · obtain ⟨mx, k, ns, h1, h2, h3⟩ := dk7.ex
        exact ⟨mx, k, ns, by rw [upd_ne Dd.symm]; exact h1, by rw [upd_ne Dl.symm]; exact h2, h3⟩
      · rw [upd_same, List.map_append]
        rfl
      · rw [List.length_append, l5]
        rfl
      · rcases List.mem_append.mp hz with e | e
        · exact g5 z e
        · rw [List.mem_singleton.mp e]
          exact ⟨hy1, hy2⟩
    rw [er] at l5
    have lf : ∀ zs : List (List Nat), (∀ y ∈ zs, y.length ≤ 60) → zs.flatten.length ≤ zs.length * 60 := by
      intro zs
      induction zs with
      | nil => intro _; simp
      | cons z zs ih =>
        intro h
        have h1 := h z List.mem_cons_self
        have h2 := ih fun y hy => h y (List.mem_cons_of_mem _ hy)
        rw [List.flatten_cons, List.length_append, List.length_cons]
        omega
    have hfl := lf ys fun y hy => (g5 y hy).1
    have hlowf : ∀ c ∈ ys.flatten, Low c := fun c hc => by
      obtain ⟨y, hy, hcy⟩ := List.mem_flatten.mp hc
      exact hlow c ((g5 y hy).2 c hcy)
    refine ⟨D, _, rfl, .inl ⟨.inl (.inl e5), fun T nT => ?_⟩⟩
    have sT1 := Same.new (o := .tup (ys.map sV)) nT
    have dk6 := dk5.same sT1
    have hT6 : SqT K (upd H5 T (.tup (ys.map sV))) T (ys.map sV) := .inl (.inl upd_same)
    revert dk6 hT6
    generalize upd H5 T (.tup (ys.map sV)) = H6
    intro dk6 hT6
    -- not all are empty
    refine ⟨⟨_, rfl⟩, _, rfl, _, T, ys.map sT, rfl, rfl, .inr (by rw [map_sV]; exact hT6), flat_join (by omega), ?_⟩
    rw [join_texts]
    have fin : ∀ σ' H', InvL a d l σ' H' → InvL a d l σ' H' := fun _ _ h => h
    by_cases hf : ys.flatten = []
    · refine ⟨rfl, _, rfl, iteND (by rw [hf]; exact sV_nil) ?_⟩
      obtain ⟨c, xr, rfl⟩ : ∃ c xr, x = c :: xr := by
        cases x with
        | nil => exact absurd rfl hx0
        | cons c xr => exact ⟨c, xr, rfl⟩
      refine ⟨_, rfl, _, rfl, 1, rfl, sT (c :: xr), rfl, by rw [sT_len]; exact line_small (by omega), ?_⟩
      rw [cut_first]
      refine ⟨_, rfl, d, l, 9, rfl, dk6, by decide, by decide, fun H7 r7 dk7 rs7 hr7 => ⟨1, _, rfl, rfl, sT [c], _, rfl, rfl, ?_, ?_⟩⟩
      · have := mul_ok c (k := 1 + r7) (by omega) (by omega)
        rw [show ((1 + r7 : Nat) : Int) = 1 + (r7 : Int) by omega] at this
        exact this
      have emul : Txt.mul (sT [c]) (1 + (r7 : Int)) = sT (List.replicate (1 + r7) c) := by
        rw [← mul_sign c (by omega), show ((1 + r7 : Nat) : Int) = 1 + (r7 : Int) by omega]
      rw [emul]
      have hT7 := restT dk6 rs7 hT6
      refine ⟨by show 1 ≤ sizeLine; decide, fun u nu => ?_⟩
      have su := Same.new (o := .tup [V.str (sT (List.replicate (1 + r7) c))]) nu
      refine ⟨T, u, _, _, rfl, rfl, Same.tup su hT7, .inl (.inl upd_same), by rw [List.length_map]; exact line_small (by show ys.length + 1 ≤ 1000000; omega), fun p H8 s8 hp => ?_⟩
      have hp2 : SqT K H8 p ((ys ++ [List.replicate (1 + r7) c]).map sV) := by
        rw [List.map_append]
        exact hp
      have ef : (ys ++ [List.replicate (1 + r7) c]).flatten = List.replicate (1 + r7) c := by
        rw [List.flatten_append, hf]
        simp
      refine hq _ a d l p (ys ++ [List.replicate (1 + r7) c]) _ _ _ _ _ _ _ _ _ _ _ H8 fin ((dk7.same su).same s8) hp2 (by rw [List.length_append, List.length_singleton]; omega) ?_ ?_ fun e he => ?_
      · rw [ef]
        intro z
        have := congrArg List.length z
        simp at this
      · rw [ef, List.length_replicate]
        omega
      · rw [ef] at he
        rw [List.eq_of_mem_replicate he]
        exact hlow c List.mem_cons_self
    · refine ⟨rfl, _, rfl, iteNN (fun z => hf ?_) ⟨_, rfl, ?_⟩⟩
      · have z2 : sV ys.flatten = sV [] := z.trans sV_nil.symm
        injection z2 with z2
        exact sT_inj z2
      exact hq _ a d l T ys _ _ _ _ _ _ _ _ _ _ _ H6 fin dk6 hT6 (by omega) hf (by omega) hlowf
  · obtain ⟨y2, y3, y4, y5, y6, y7, y8, y9, y10, y11, y12, y13, rfl, dk2⟩ := h2
    exact q H2
end
end TK
end
section
set_option Elab.async false
set_option linter.all false
set_option maxRecDepth 100000
set_option maxHeartbeats 8000000
/-! The end: what the top has written, the law's own call, the row's goal. -/
namespace TK
open PySem PySem.Spec L2
open PyProof.Rows TL
/-- the def x of the text stands behind the top -/
structure DefIn (K : PySem.W.Frag) (x : Str) (st : Stmt) : Prop where
  ex : ∃ f fd, PySem.W.nsIn K mainGlobals x = some (some (.ref f)) ∧ Fun K x x st f fd
theorem def_mk {K : PySem.W.Frag} {x : Str} {st : Stmt} {fa : Addr} {q1 q2 : Option Addr} {q3 : Array (Option Value)} {u1 u2 u3 u4 u5 u6 : Value}
    (ha : PySem.W.nsIn K mainGlobals x = some (some (.ref fa))) (hl : K.lookup fa = some ⟨u1, q1, .func (PySem.W.fnOf x x (defArgs st) (defBody st) (defScope st) .none u2 u3 u4 q2 u5 u6), q3⟩)
    (hc : PySem.W.codeIn K u5 x = true) (hk : PySem.W.keepIn K (.ref fa) = true) : DefIn K x st := ⟨fa, _, ha, fun_mk hl hc hk⟩
structure Defs (K : PySem.W.Frag) : Prop where
  d_is_integer : DefIn K "is_integer" (topS 12)
  d_is_from : DefIn K "is_from" (topS 13)
  d_are_letters : DefIn K "are_letters" (topS 14)
  d_is_pair_below : DefIn K "is_pair_below" (topS 15)
  d_is_vocabulary_value : DefIn K "is_vocabulary_value" (topS 16)
  d_need_vocabulary : DefIn K "need_vocabulary" (topS 17)
  d_are_tokens_below : DefIn K "are_tokens_below" (topS 18)
  d_size_raw : DefIn K "size_raw" (topS 19)
  d_pieces_of : DefIn K "pieces_of" (topS 20)
  d_text_raw : DefIn K "text_raw" (topS 21)
  d_merged : DefIn K "merged" (topS 22)
  d_is_text : DefIn K "is_text" (topS 23)
  d_tokens_raw : DefIn K "tokens_raw" (topS 24)
  d_are_texts : DefIn K "are_texts" (topS 25)
  d_pair_counts : DefIn K "pair_counts" (topS 26)
  d_best_pair : DefIn K "best_pair" (topS 27)
  d_trained_raw : DefIn K "trained_raw" (topS 28)
  d_is_vocabulary : DefIn K "is_vocabulary" (topS 30)
  d_size : DefIn K "size" (topS 31)
  d_need_text : DefIn K "need_text" (topS 32)
  d_to_tokens : DefIn K "to_tokens" (topS 33)
  d_to_text : DefIn K "to_text" (topS 34)
  d_trained : DefIn K "trained" (topS 35)
  d_law_deck : DefIn K "_law_deck" (topS 37)
  d_law_draw : DefIn K "_law_draw" (topS 38)
  d_law_pick : DefIn K "_law_pick" (topS 39)
  d_law_letters : DefIn K "_law_letters" (topS 40)
  d_law_drawn_text : DefIn K "_law_drawn_text" (topS 41)
  d_law_merged : DefIn K "_law_merged" (topS 42)
  d_law_tokens : DefIn K "_law_tokens" (topS 43)
  d_law_trained : DefIn K "_law_trained" (topS 44)
  d_law : DefIn K "law" (topS 45)
/-- how the names of the module stand -/
structure Nms (K : PySem.W.Frag) : Prop where
  b_isinstance : PySem.W.nsIn K mainGlobals "isinstance" = some none
  b_int : PySem.W.nsIn K mainGlobals "int" = some none
  b_bool : PySem.W.nsIn K mainGlobals "bool" = some none
  b_str : PySem.W.nsIn K mainGlobals "str" = some none
  b_tuple : PySem.W.nsIn K mainGlobals "tuple" = some none
  b_len : PySem.W.nsIn K mainGlobals "len" = some none
  b_set : PySem.W.nsIn K mainGlobals "set" = some none
  b_all : PySem.W.nsIn K mainGlobals "all" = some none
  b_list : PySem.W.nsIn K mainGlobals "list" = some none
  b_enumerate : PySem.W.nsIn K mainGlobals "enumerate" = some none
  b_sorted : PySem.W.nsIn K mainGlobals "sorted" = some none
  b_zip : PySem.W.nsIn K mainGlobals "zip" = some none
  b_min : PySem.W.nsIn K mainGlobals "min" = some none
  b_max : PySem.W.nsIn K mainGlobals "max" = some none
  b_range : PySem.W.nsIn K mainGlobals "range" = some none
  b_repr : PySem.W.nsIn K mainGlobals "repr" = some none
  small : ∃ t, PySem.W.nsIn K mainGlobals "SMALL" = some (some (.str "abcdefghijklmnopqrstuvwxyz" t))
  voc : ∃ t, PySem.W.nsIn K mainGlobals "VOCABULARY" = some (some (.str "vocabulary" t))
  letters : ∃ t, PySem.W.nsIn K mainGlobals "MOST_LETTERS" = some (some (.int 6 t))
  merges : ∃ t, PySem.W.nsIn K mainGlobals "MOST_MERGES" = some (some (.int 10 t))
section
variable {K : PySem.W.Frag} {h : Heap} {mg : Str → Option Value}
theorem names_of (X : K.In h) (G : h.Ns mainGlobals mg) (M : Nms K) : Names mg := by
  refine ⟨fun x hx => ?_, ?_, ?_, ?_, ?_⟩
  · simp only [bltNames, List.mem_cons, List.not_mem_nil, or_false] at hx
    rcases hx with e | e | e | e | e | e | e | e | e | e | e | e | e | e | e | e <;> subst e
    · exact PySem.W.mg_none_of X G M.b_isinstance
    · exact PySem.W.mg_none_of X G M.b_int
    · exact PySem.W.mg_none_of X G M.b_bool
    · exact PySem.W.mg_none_of X G M.b_str
    · exact PySem.W.mg_none_of X G M.b_tuple
    · exact PySem.W.mg_none_of X G M.b_len
    · exact PySem.W.mg_none_of X G M.b_set
    · exact PySem.W.mg_none_of X G M.b_all
    · exact PySem.W.mg_none_of X G M.b_list
    · exact PySem.W.mg_none_of X G M.b_enumerate
    · exact PySem.W.mg_none_of X G M.b_sorted
    · exact PySem.W.mg_none_of X G M.b_zip
    · exact PySem.W.mg_none_of X G M.b_min
    · exact PySem.W.mg_none_of X G M.b_max
    · exact PySem.W.mg_none_of X G M.b_range
    · exact PySem.W.mg_none_of X G M.b_repr
  · exact let ⟨t, e⟩ := M.small; ⟨t, PySem.W.mg_of X G e⟩
  · exact let ⟨t, e⟩ := M.voc; ⟨t, PySem.W.mg_of X G e⟩
  · exact let ⟨t, e⟩ := M.letters; ⟨t, PySem.W.mg_of X G e⟩
  · exact let ⟨t, e⟩ := M.merges; ⟨t, PySem.W.mg_of X G e⟩
theorem at_of (X : K.In h) (G : h.Ns mainGlobals mg) {x : Str} {st : Stmt} (d : DefIn K x st) : ∃ f fd, At K mg x st f fd :=
  let ⟨f, fd, e, q⟩ := d.ex
  ⟨f, fd, PySem.W.mg_of X G e, q⟩
end
theorem kb_trained {K : PySem.W.Frag} {f : Addr} {fd : FuncData} (F : Fun K "trained" "trained" (topS 35) f fd) : KBinds K fd ["texts", "n"] ["n", "texts"] swapU swapV := by
  obtain ⟨oc, od, kV, doc, pm, an, cdv, ct, osl, rfl, lk, hcd⟩ := F.ex
  refine ⟨fun s us ws _ hl => ?_, fun {vs us zs ws} r1 r2 => ?_⟩
  · match us, ws, hl with
    | [], [x, y], _ => exact .of_eq rfl
  · cases r1 with
    | nil =>
      cases r2 with
      | nil => exact .nil
      | cons r t =>
        cases t with
        | nil => exact .nil
        | cons r' t' =>
          cases t' with
          | nil => exact .cons r' (.cons r .nil)
          | cons _ _ => exact .nil
    | cons r t => exact .nil
theorem lk_of {P : Program} {w : World} {K : PySem.W.Frag} {mg : Str → Option Value} {base h : Heap} (X : K.In h) (G : h.Ns mainGlobals mg) (D : Defs K) (M : Nms K) : LK P w K mg base := by
  have N := names_of X G M
  obtain ⟨f_is_integer, fd_is_integer, F_is_integer⟩ := at_of X G D.d_is_integer
  have B_is_integer := F_is_integer.fn.binds (ps := ["thing"]) fun _ _ _ _ _ _ us hl => match us, hl with | [_], _ => rfl
  obtain ⟨f_is_from, fd_is_from, F_is_from⟩ := at_of X G D.d_is_from
  have B_is_from := F_is_from.fn.binds (ps := ["thing", "least"]) fun _ _ _ _ _ _ us hl => match us, hl with | [_, _], _ => rfl
  obtain ⟨f_are_letters, fd_are_letters, F_are_letters⟩ := at_of X G D.d_are_letters
  have B_are_letters := F_are_letters.fn.binds (ps := ["thing"]) fun _ _ _ _ _ _ us hl => match us, hl with | [_], _ => rfl
  obtain ⟨f_is_pair_below, fd_is_pair_below, F_is_pair_below⟩ := at_of X G D.d_is_pair_below
  have B_is_pair_below := F_is_pair_below.fn.binds (ps := ["thing", "most"]) fun _ _ _ _ _ _ us hl => match us, hl with | [_, _], _ => rfl
  obtain ⟨f_is_vocabulary_value, fd_is_vocabulary_value, F_is_vocabulary_value⟩ := at_of X G D.d_is_vocabulary_value
  have B_is_vocabulary_value := F_is_vocabulary_value.fn.binds (ps := ["thing"]) fun _ _ _ _ _ _ us hl => match us, hl with | [_], _ => rfl
  obtain ⟨f_need_vocabulary, fd_need_vocabulary, F_need_vocabulary⟩ := at_of X G D.d_need_vocabulary
  have B_need_vocabulary := F_need_vocabulary.fn.binds (ps := ["thing"]) fun _ _ _ _ _ _ us hl => match us, hl with | [_], _ => rfl
  obtain ⟨f_are_tokens_below, fd_are_tokens_below, F_are_tokens_below⟩ := at_of X G D.d_are_tokens_below
  have B_are_tokens_below := F_are_tokens_below.fn.binds (ps := ["thing", "many"]) fun _ _ _ _ _ _ us hl => match us, hl with | [_, _], _ => rfl
  obtain ⟨f_size_raw, fd_size_raw, F_size_raw⟩ := at_of X G D.d_size_raw
  have B_size_raw := F_size_raw.fn.binds (ps := ["vocabulary"]) fun _ _ _ _ _ _ us hl => match us, hl with | [_], _ => rfl
  obtain ⟨f_pieces_of, fd_pieces_of, F_pieces_of⟩ := at_of X G D.d_pieces_of
  have B_pieces_of := F_pieces_of.fn.binds (ps := ["vocabulary"]) fun _ _ _ _ _ _ us hl => match us, hl with | [_], _ => rfl
  obtain ⟨f_text_raw, fd_text_raw, F_text_raw⟩ := at_of X G D.d_text_raw
  have B_text_raw := F_text_raw.fn.binds (ps := ["vocabulary", "tokens"]) fun _ _ _ _ _ _ us hl => match us, hl with | [_, _], _ => rfl
  obtain ⟨f_merged, fd_merged, F_merged⟩ := at_of X G D.d_merged
  have B_merged := F_merged.fn.binds (ps := ["tokens", "merge", "token"]) fun _ _ _ _ _ _ us hl => match us, hl with | [_, _, _], _ => rfl
  obtain ⟨f_is_text, fd_is_text, F_is_text⟩ := at_of X G D.d_is_text
  have B_is_text := F_is_text.fn.binds (ps := ["vocabulary", "thing"]) fun _ _ _ _ _ _ us hl => match us, hl with | [_, _], _ => rfl
  obtain ⟨f_tokens_raw, fd_tokens_raw, F_tokens_raw⟩ := at_of X G D.d_tokens_raw
  have B_tokens_raw := F_tokens_raw.fn.binds (ps := ["vocabulary", "text"]) fun _ _ _ _ _ _ us hl => match us, hl with | [_, _], _ => rfl
  obtain ⟨f_are_texts, fd_are_texts, F_are_texts⟩ := at_of X G D.d_are_texts
  have B_are_texts := F_are_texts.fn.binds (ps := ["thing"]) fun _ _ _ _ _ _ us hl => match us, hl with | [_], _ => rfl
  obtain ⟨f_pair_counts, fd_pair_counts, F_pair_counts⟩ := at_of X G D.d_pair_counts
  have B_pair_counts := F_pair_counts.fn.binds (ps := ["rows"]) fun _ _ _ _ _ _ us hl => match us, hl with | [_], _ => rfl
  obtain ⟨f_best_pair, fd_best_pair, F_best_pair⟩ := at_of X G D.d_best_pair
  have B_best_pair := F_best_pair.fn.binds (ps := ["rows", "pieces"]) fun _ _ _ _ _ _ us hl => match us, hl with | [_, _], _ => rfl
  obtain ⟨f_trained_raw, fd_trained_raw, F_trained_raw⟩ := at_of X G D.d_trained_raw
  have B_trained_raw := F_trained_raw.fn.binds (ps := ["texts", "n"]) fun _ _ _ _ _ _ us hl => match us, hl with | [_, _], _ => rfl
  obtain ⟨f_is_vocabulary, fd_is_vocabulary, F_is_vocabulary⟩ := at_of X G D.d_is_vocabulary
  have B_is_vocabulary := F_is_vocabulary.fn.binds (ps := ["thing"]) fun _ _ _ _ _ _ us hl => match us, hl with | [_], _ => rfl
  obtain ⟨f_size, fd_size, F_size⟩ := at_of X G D.d_size
  have B_size := F_size.fn.binds (ps := ["vocabulary"]) fun _ _ _ _ _ _ us hl => match us, hl with | [_], _ => rfl
  obtain ⟨f_need_text, fd_need_text, F_need_text⟩ := at_of X G D.d_need_text
  have B_need_text := F_need_text.fn.binds (ps := ["vocabulary", "text"]) fun _ _ _ _ _ _ us hl => match us, hl with | [_, _], _ => rfl
  obtain ⟨f_to_tokens, fd_to_tokens, F_to_tokens⟩ := at_of X G D.d_to_tokens
  have B_to_tokens := F_to_tokens.fn.binds (ps := ["vocabulary", "text"]) fun _ _ _ _ _ _ us hl => match us, hl with | [_, _], _ => rfl
  obtain ⟨f_to_text, fd_to_text, F_to_text⟩ := at_of X G D.d_to_text
  have B_to_text := F_to_text.fn.binds (ps := ["vocabulary", "tokens"]) fun _ _ _ _ _ _ us hl => match us, hl with | [_, _], _ => rfl
  obtain ⟨f_trained, fd_trained, F_trained⟩ := at_of X G D.d_trained
  have B_trained := F_trained.fn.binds (ps := ["texts", "n"]) fun _ _ _ _ _ _ us hl => match us, hl with | [_, _], _ => rfl
  obtain ⟨f_law_deck, fd_law_deck, F_law_deck⟩ := at_of X G D.d_law_deck
  have B_law_deck := F_law_deck.fn.binds (ps := ["_law_script", "_law_seed"]) fun _ _ _ _ _ _ us hl => match us, hl with | [_, _], _ => rfl
  obtain ⟨f_law_draw, fd_law_draw, F_law_draw⟩ := at_of X G D.d_law_draw
  have B_law_draw := F_law_draw.fn.binds (ps := ["_law_deck_here", "_law_many"]) fun _ _ _ _ _ _ us hl => match us, hl with | [_, _], _ => rfl
  obtain ⟨f_law_pick, fd_law_pick, F_law_pick⟩ := at_of X G D.d_law_pick
  have B_law_pick := F_law_pick.fn.binds (ps := ["_law_deck_here", "_law_some"]) fun _ _ _ _ _ _ us hl => match us, hl with | [_, _], _ => rfl
  obtain ⟨f_law_letters, fd_law_letters, F_law_letters⟩ := at_of X G D.d_law_letters
  have B_law_letters := F_law_letters.fn.binds (ps := ["_law_deck_here", "_law_most"]) fun _ _ _ _ _ _ us hl => match us, hl with | [_, _], _ => rfl
  obtain ⟨f_law_drawn_text, fd_law_drawn_text, F_law_drawn_text⟩ := at_of X G D.d_law_drawn_text
  have B_law_drawn_text := F_law_drawn_text.fn.binds (ps := ["_law_deck_here", "_law_letters_here", "_law_most"]) fun _ _ _ _ _ _ us hl => match us, hl with | [_, _, _], _ => rfl
  obtain ⟨f_law_merged, fd_law_merged, F_law_merged⟩ := at_of X G D.d_law_merged
  have B_law_merged := F_law_merged.fn.binds (ps := ["_law_tokens_here", "_law_pair", "_law_new"]) fun _ _ _ _ _ _ us hl => match us, hl with | [_, _, _], _ => rfl
  obtain ⟨f_law_tokens, fd_law_tokens, F_law_tokens⟩ := at_of X G D.d_law_tokens
  have B_law_tokens := F_law_tokens.fn.binds (ps := ["_law_vocabulary", "_law_text"]) fun _ _ _ _ _ _ us hl => match us, hl with | [_, _], _ => rfl
  obtain ⟨f_law_trained, fd_law_trained, F_law_trained⟩ := at_of X G D.d_law_trained
  have B_law_trained := F_law_trained.fn.binds (ps := ["_law_texts", "_law_n"]) fun _ _ _ _ _ _ us hl => match us, hl with | [_, _], _ => rfl
  have K_is_integer := k_is_integer (P := P) (w := w) (base := base) N F_is_integer B_is_integer
  have K_is_from := k_is_from (P := P) (w := w) (base := base) F_is_from B_is_from K_is_integer
  have K_are_letters := k_are_letters (P := P) (w := w) (base := base) N F_are_letters B_are_letters
  have K_is_pair_below := k_is_pair_below (P := P) (w := w) (base := base) N F_is_pair_below B_is_pair_below K_is_from
  have K_size_raw := k_size_raw (P := P) (w := w) (base := base) N F_size_raw B_size_raw
  have K_pieces_of := k_pieces_of (P := P) (w := w) (base := base) N F_pieces_of B_pieces_of
  have K_merged := k_merged (P := P) (w := w) (base := base) N F_merged B_merged
  have K_is_vocabulary_value := k_is_vocabulary_value (P := P) (w := w) (base := base) N F_is_vocabulary_value B_is_vocabulary_value K_are_letters K_is_pair_below K_pieces_of K_size_raw
  have K_need_vocabulary := k_need_vocabulary (P := P) (w := w) (base := base) F_need_vocabulary B_need_vocabulary K_is_vocabulary_value
  have K_are_tokens_below := k_are_tokens_below (P := P) (w := w) (base := base) N F_are_tokens_below B_are_tokens_below K_is_from
  have K_text_raw := k_text_raw (P := P) (w := w) (base := base) F_text_raw B_text_raw K_pieces_of
  have K_is_text := k_is_text (P := P) (w := w) (base := base) N F_is_text B_is_text
  have K_tokens_raw := k_tokens_raw (P := P) (w := w) (base := base) N F_tokens_raw B_tokens_raw K_merged
  have K_are_texts := k_are_texts (P := P) (w := w) (base := base) N F_are_texts B_are_texts
  have K_pair_counts := k_pair_counts (P := P) (w := w) (base := base) N F_pair_counts B_pair_counts
  have K_best_pair := k_best_pair (P := P) (w := w) (base := base) N F_best_pair B_best_pair K_pair_counts
  have K_trained_raw := k_trained_raw (P := P) (w := w) (base := base) N F_trained_raw B_trained_raw K_tokens_raw K_best_pair K_pieces_of K_merged K_size_raw
  have K_is_vocabulary := k_is_vocabulary (P := P) (w := w) (base := base) F_is_vocabulary B_is_vocabulary K_is_vocabulary_value
  have K_size := k_size (P := P) (w := w) (base := base) F_size B_size K_need_vocabulary K_size_raw
  have K_need_text := k_need_text (P := P) (w := w) (base := base) F_need_text B_need_text K_need_vocabulary K_is_text
  have K_to_tokens := k_to_tokens (P := P) (w := w) (base := base) N F_to_tokens B_to_tokens K_need_text K_tokens_raw
  have K_to_text := k_to_text (P := P) (w := w) (base := base) F_to_text B_to_text K_need_vocabulary K_are_tokens_below K_size_raw K_text_raw
  have K_trained := k_trained (P := P) (w := w) (base := base) F_trained B_trained K_are_texts K_is_from K_trained_raw
  have K_law_deck := k_law_deck (P := P) (w := w) (base := base) N F_law_deck B_law_deck
  have K_law_draw := k_law_draw (P := P) (w := w) (base := base) N F_law_draw B_law_draw
  have K_law_pick := k_law_pick (P := P) (w := w) (base := base) N F_law_pick B_law_pick K_law_draw
  have K_law_letters := k_law_letters (P := P) (w := w) (base := base) N F_law_letters B_law_letters K_law_draw
  have K_law_drawn_text := k_law_drawn_text (P := P) (w := w) (base := base) N F_law_drawn_text B_law_drawn_text K_law_draw K_law_pick
  have K_law_merged := k_law_merged (P := P) (w := w) (base := base) N F_law_merged B_law_merged
  have K_law_tokens := k_law_tokens (P := P) (w := w) (base := base) N F_law_tokens B_law_tokens K_law_merged
  have K_law_trained := k_law_trained (P := P) (w := w) (base := base) N F_law_trained B_law_trained K_law_merged
  have KK : KeepsK P w K mg base 4 "trained" ["texts", "n"] ["n", "texts"] swapU swapV (sp_trained_raw K) := by
    exact ⟨f_trained, fd_trained, F_trained.mg, F_trained.fn.kp, kb_trained F_trained.fn, fn_trained (P := P) (w := w) (base := base) F_trained K_are_texts K_is_from K_trained_raw⟩
  exact ⟨K_law_deck, K_law_draw, K_law_pick, K_law_letters, K_law_drawn_text, K_law_tokens, K_law_trained, K_trained, KK, K_is_vocabulary, K_size, K_to_tokens, K_to_text⟩
end TK
end
section
set_option Elab.async false
set_option linter.all false
set_option maxRecDepth 100000
set_option maxHeartbeats 8000000
/-! The law's own call, where nothing is on its way to be shown; the row's goal from it. -/
namespace TK
open PySem PySem.Spec L2
open PyProof.Rows TL
theorem law_room : Room 8 callerA := ⟨rfl, by decide, by decide⟩
section
variable {P : Program} {w : World} {K : PySem.W.Frag} {mg : Str → Option Value} {base : Heap}
theorem law_called (N : Names mg) (L : LK P w K mg base) {fa : Addr} {fd : FuncData} (T : Fun K "law" "law" st_law fa fd) {z : Shared} {H : Hp} {a : Addr} {ns : List Int} (Z : Env0 P w K mg base callerA [] z H) (hA : SqL K H a (ns.map V.int)) :
    codeAny (model P w) callerA (.call (.ref fa) ⟨[.ref a], []⟩) (fun r z' => ∃ u, r = .ok (.ret u) ∧ CE [] P w H z (fun v _ => v = .bl true) u z') z := by
  obtain ⟨c1, c2, c3, c4, c5, c6, c7, c8, c9, rfl, there, code⟩ := T.ex
  have stands : K.In z.heap := Z.mod.kin.keeps fun x y q => (Z.bs x y q).1
  have free : z.heap.NoLimit := Z.mod.nolimit.keeps fun x y q => (Z.bs x y q).1
  have room := law_room
  have args : ∀ y ∈ [(("_law_script" : Str), Value.ref a)], (defScope st_law).names.lookup y.1 = some .local ∨ ((defScope st_law).names.lookup y.1 = some .cell ∧ ((cellsFrom (z.heap.objs.size + 1) (defScope st_law).names []).lookup y.1).isSome = true) := fun y hy => by
    rw [List.mem_singleton.mp hy]
    exact .inl rfl
  refine codeAny_call_function room.depth (stands _ _ there) rfl sc_law.co sc_law.gen rfl (PySem.W.codeRec_of stands code) ?_
  refine BindsTo.of_eq (s := z) (binds := [("_law_script", Value.ref a)]) rfl _ _ _ _ ?_
  refine wpAny_newFunctionEnv_cells sc_law.kind args fun env henv z1 inn => ?_
  subst henv
  refine ⟨free.keeps inn.toInCall.keep, codeAny_func ?_⟩
  obtain ⟨t, body, reads⟩ := law_walk (P := P) (w := w) (K := K) (mg := mg) (base := base) N L (f := fa) (cdv := c7) (s := z) (H := H) (E := E0) (Q := fun v _ => v = .bl true) (a := a) (ns := ns) (room.deeper _) hA fun _ => rfl
  have J : L2.Inv (cxOf CX0 P w K mg base nLaw "law" (defScope st_law) fa c7 callerA [] z H E0) [] (L2.start nLaw [.ref a]) H z1 := inv_start (us := [Value.ref a]) sc_law room.hd Z rfl (.cons rfl .nil) inn
  refine wpAny_mono (body.run [] z1 _ H _ (J.wish fun _ _ => False) reads) (fun out z2 got => ?_) fun e z2 bad => (show False from bad).elim
  cases out with
  | ret u =>
    obtain ⟨v, σ2, H2, J2, rv, ev⟩ := got
    exact ⟨u, rfl, v, H2, J2.os, J2.bare, J2.base, J2.hok, rv, ev⟩
  | next =>
    obtain ⟨σ2, H2, J2, ev⟩ := got
    exact absurd (show V.non = V.bl true from ev) (fun q => nomatch q)
  | brk =>
    obtain ⟨_, _, _, ev⟩ := got
    exact (show False from ev).elim
  | cont =>
    obtain ⟨_, _, _, ev⟩ := got
    exact (show False from ev).elim
/-- at the heap behind the top: the script alone may be tracked -/
theorem law_atop {mb : Str → Option Value} {fa a : Addr} {z : Shared} {vs : List Value} {ns : List Int} (stands : K.In z.heap) (hmg : z.heap.Ns mainGlobals mg) (hmb : z.heap.Ns builtinsNs mb) (boot : ∀ x : Str, x ≠ "__name__" → mb x = bootBuiltins x) (free : z.heap.NoLimit) (still : z.gens = #[])
    (scr : z.heap.get? a = some { cls := .type "list", data := .seq vs.toArray }) (are : IntsAre vs ns) (few : ns.length ≤ 63)
    (call : ∀ (b : Heap) (H : Hp), K.In b → b.Ns mainGlobals mg → Env0 P w K mg b callerA [] z H → SqL K H a (ns.map V.int) → codeAny (model P w) callerA (.call (.ref fa) ⟨[.ref a], []⟩) (fun r z' => ∃ u, r = .ok (.ret u) ∧ CE [] P w H z (fun v _ => v = .bl true) u z') z) :
    codeAny (model P w) callerA (.call (.ref fa) ⟨[.ref a], []⟩) (fun r z' => r = .ok (.ret (.bool true)) ∧ OldK z.heap z'.heap ∧ z'.os = z.os ∧ AllBare z'.gens) z := by
  have short : ns.length ≤ sizeLine := by rw [sizeLine_eq]; omega
  have paired := vals_ints are
  have size := are.length
  by_cases own : K.lookup a = none
  · -- the script is tracked, known to the object
    let T : Hp := fun x => if x = a then some (.frz { cls := .type "list", data := .seq vs.toArray } (.lst (ns.map V.int))) else none
    have Ta : T a = some (.frz { cls := .type "list", data := .seq vs.toArray } (.lst (ns.map V.int))) := if_pos rfl
    have To : ∀ x, x ≠ a → T x = none := fun x q => if_neg q
    have held : HOk P w T z.heap := fun x u q => by
      by_cases e : x = a
      · subst e
        rw [Ta] at q
        cases q
        exact ⟨scr, by rw [List.length_map]; exact short, vs, _, paired, scr⟩
      · rw [To x e] at q
        cases q
    have keepG : ∀ {x : Addr} {m : Str → Option Value}, z.heap.Ns x m → (hidT z.heap T).Ns x m := fun {x m} ⟨ob, es, ep, g, d, r⟩ => by
      refine ⟨ob, es, ep, hidT_get g (To x fun e => ?_), d, r⟩
      subst e
      rw [scr] at g
      cases g
      exact absurd d fun q => nomatch q
    have kin : K.In (hidT z.heap T) := fun x ob q => hidT_get (stands x ob q) (To x fun e => by subst e; rw [own] at q; cases q)
    have M : Mod K mg (hidT z.heap T) := ⟨kin, keepG hmg, ⟨mb, keepG hmb, boot⟩, let ⟨mc, g1, g2⟩ := free; ⟨mc, keepG g1, g2⟩⟩
    have Z : Env0 P w K mg (hidT z.heap T) callerA [] z T := ⟨rfl, M, fun x ob q => of_hidT q, Nat.le_of_eq (hidT_size _ _), trivial, fun x q => absurd (show x ∈ ([] : List Addr) from q) (by simp), held, .of_eq still⟩
    refine codeAny_mono (call _ T kin (keepG hmg) Z (.inl (.inr ⟨_, Ta⟩))) fun r z' ⟨u, er, v, H', q1, q2, un, hk, rv, ev⟩ => ?_
    have ev' : v = V.bl true := ev
    subst er ev'
    obtain rfl : u = Value.bool true := rv
    refine ⟨rfl, OldK.of_keep fun x ob g => ?_, q1, q2⟩
    by_cases e : x = a
    · subst e
      have f2 := un.frzs x _ _ Ta
      obtain ⟨g2, _⟩ := hk x _ f2
      rw [scr] at g
      cases g
      exact g2
    · exact un.keep x ob g (To x e) (fun q => absurd (show x ∈ ([] : List Addr) from q) (by simp)) (by simp)
  · -- it is one of the module's own objects
    obtain ⟨ob, hob⟩ : ∃ ob, K.lookup a = some ob := by
      cases q : K.lookup a with
      | none => exact absurd q own
      | some ob => exact ⟨ob, rfl⟩
    have same := stands a ob hob
    rw [scr] at same
    cases same
    have held : HOk P w (fun _ => none) z.heap := fun x u q => nomatch q
    have get : ∀ {x : Addr} {o : Obj}, z.heap.get? x = some o → (hidT z.heap fun _ => none).get? x = some o := fun g => hidT_get g rfl
    have keepG : ∀ {x : Addr} {m : Str → Option Value}, z.heap.Ns x m → (hidT z.heap fun _ => none).Ns x m := fun {x m} ⟨ob, es, ep, g, d, r⟩ => ⟨ob, es, ep, get g, d, r⟩
    have kin : K.In (hidT z.heap fun _ => none) := fun x o q => get (stands x o q)
    have M : Mod K mg (hidT z.heap fun _ => none) := ⟨kin, keepG hmg, ⟨mb, keepG hmb, boot⟩, let ⟨mc, g1, g2⟩ := free; ⟨mc, keepG g1, g2⟩⟩
    have Z : Env0 P w K mg (hidT z.heap fun _ => none) callerA [] z (fun _ => none) := ⟨rfl, M, fun x o q => of_hidT q, Nat.le_of_eq (hidT_size _ _), trivial, fun x q => absurd (show x ∈ ([] : List Addr) from q) (by simp), held, .of_eq still⟩
    refine codeAny_mono (call _ (fun _ => none) kin (keepG hmg) Z (.inr ⟨_, vs.toArray, _, hob, rfl, rfl, rfl, by rw [List.size_toArray, size]; exact short, by simpa using paired⟩)) fun r z' ⟨u, er, v, H', q1, q2, un, hk, rv, ev⟩ => ?_
    have ev' : v = V.bl true := ev
    subst er ev'
    obtain rfl : u = Value.bool true := rv
    exact ⟨rfl, OldK.of_keep fun x o g => un.keep x o g rfl (fun q => absurd (show x ∈ ([] : List Addr) from q) (by simp)) (by simp), q1, q2⟩
end
/-- the goal that the head leaves -/
theorem law_goal {l : PySem.W.OpenLaw} {q : Program} {loose : List Str} {XP : (Str → Option Value) → Heap → Prop} {YP : World → Heap → Prop} {d : DefRec} {K : Params → PySem.W.Frag}
    (most : l.most = some 63) (nodef : d.params.defaults = []) (name : d.name = "law") (kin : ∀ (w : World) (h : Heap), YP w h → (K w.params).In h) (D : ∀ w : World, Defs (K w.params)) (M : ∀ w : World, Nms (K w.params)) :
    PySem.W.WalkO q loose XP YP l.row.toRowW d [] (fun f vs => PySem.call f vs) := by
  refine Att.attach_call most nodef fun w z0 z mg mb fa o pm cd doc a vs ns G Y ho hd hcd hmg hobj hints hlen hg => ?_
  have X := kin w _ Y
  obtain ⟨f, fd, at1, fn⟩ := (D w).d_law.ex
  have e : fa = f := by
    have h1 : mg "law" = some (.ref fa) := by rw [← name]; exact hmg
    have h2 := PySem.W.mg_of X G.T.g at1
    rw [h1] at h2
    cases h2
    rfl
  subst e
  exact law_atop X G.T.g G.T.b G.T.builtins G.T.nolimit hg hobj hints hlen fun b H kb gb Z hA => law_called (names_of kb gb (M w)) (lk_of kb gb (D w) (M w)) fn Z hA
theorem str_mk {K : PySem.W.Frag} {x z : Str} {t : Tok} (e : PySem.W.nsIn K mainGlobals x = some (some (.str z t))) : ∃ t, PySem.W.nsIn K mainGlobals x = some (some (.str z t)) := ⟨t, e⟩
theorem int_mk {K : PySem.W.Frag} {x : Str} {z : Int} {t : Tok} (e : PySem.W.nsIn K mainGlobals x = some (some (.int z t))) : ∃ t, PySem.W.nsIn K mainGlobals x = some (some (.int z t)) := ⟨t, e⟩
end TK
end
open PySem PySem.W PyProof.Rows
set_option Elab.async false
set_option maxRecDepth 100000 in
set_option maxHeartbeats 0 in
theorem PySem.Challenge.cw_draftward_k03_whole_training_by_own_coun_holds : PySem.Challenge.rw_draftward_k03_whole_training_by_own_coun.Holds := by
  w_on; o_law; k_head; (case hw => w_witness2)
  k_fill
  refine TK.law_goal (l := PySem.Challenge.rw_draftward_k03_whole_training_by_own_coun) rfl rfl rfl (fun w h Y => PySem.W.kIn_of Y) (fun w => ?tkD) (fun w => ?tkM)
  case tkD =>
    constructor
    all_goals (refine' TK.def_mk ?a ?l ?c ?k; (case a => k_is); (case l => k_is); (case c => k_is); (case k => k_is))
  case tkM =>
    constructor
    · k_is
    · k_is
    · k_is
    · k_is
    · k_is
    · k_is
    · k_is
    · k_is
    · k_is
    · k_is
    · k_is
    · k_is
    · k_is
    · k_is
    · k_is
    · k_is
    · refine' TK.str_mk ?e; (case e => k_is)
    · refine' TK.str_mk ?e; (case e => k_is)
    · refine' TK.int_mk ?e; (case e => k_is)
    · refine' TK.int_mk ?e; (case e => k_is)
