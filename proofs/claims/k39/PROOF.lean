import PyProof.Rows.All
import Wide.All
import OpenK.AllK
import Wide.FinOn
import KE.KStateDown
import HandS.ForMost
import HandS.Exc
import HandS.TryOnly
import HandS.WordsExc
import HandS.Defaults
import HandS.Head0
import HandS.Head1
import HandS.Head2
import HandS.HeadEnd
import HandS.HeadHook1
import HandS.HeadHook2
import HandS.Deep
import HandS.TupAny
import HandS.TupLen
import HandS.TupLe
import HandS.NoneIn
import HandS.IsInst
import HandS.Zip
import HandS.Wide
import HandS.SetKeys
import HandS.TupMul
import KE.SortData
import PySem.Challenge.RW_partkits_k39_whole_built_or_cases
import HandS.Codes
import KE.GoesEnum
import KE.GoesMore
import KE.GoesZip
import HandS.Zip0
import HandS.DictTup
import PyProof.DictMoreH
import HandS.Conv
import HandS.More
import HandS.SortInts
import KE.KDictDisplayH
import PyProof.DictUpdate
import PyProof.P3In
import HandS.Set
import HandS.SetFor
import HandS.Strs
import HandS.Text
import HandS.MakeKw
section
/-! Plain mathematics: sums, assoc lists, parts led to wants. No program in sight. -/
namespace PM
set_option linter.all false

/-! ### sums over a range -/
def rs : Nat → (Nat → Int) → Int
  | 0, _ => 0
  | n + 1, F => rs n F + F n
theorem rs_congr {n : Nat} {F G : Nat → Int} (h : ∀ i, i < n → F i = G i) : rs n F = rs n G := by
  induction n with
  | zero => rfl
  | succ n ih => simp only [rs]; rw [ih fun i hi => h i (by omega), h n (by omega)]
theorem rs_le {n : Nat} {F G : Nat → Int} (h : ∀ i, i < n → F i ≤ G i) : rs n F ≤ rs n G := by
  induction n with
  | zero => exact Int.le_refl _
  | succ n ih =>
    have a := ih fun i hi => h i (by omega)
    have b := h n (by omega)
    simp only [rs]; omega
theorem rs_lt {n k : Nat} {F G : Nat → Int} (h : ∀ i, i < n → F i ≤ G i) (hk : k < n) (hlt : F k < G k) : rs n F < rs n G := by
  induction n with
  | zero => omega
  | succ n ih =>
    have b := h n (by omega)
    simp only [rs]
    by_cases e : k = n
    · subst e
      have a := rs_le (n := k) (F := F) (G := G) fun i hi => h i (by omega)
      omega
    · have a := ih (fun i hi => h i (by omega)) (by omega)
      omega
theorem rs_add (n : Nat) (F G : Nat → Int) : rs n (fun i => F i + G i) = rs n F + rs n G := by
  induction n with
  | zero => rfl
  | succ n ih => simp only [rs]; rw [ih]; omega
theorem rs_zero (n : Nat) : rs n (fun _ => 0) = 0 := by
  induction n with
  | zero => rfl
  | succ n ih => simp only [rs]; rw [ih]; rfl
theorem rs_one (n k : Nat) (c : Int) (hk : k < n) : rs n (fun i => if i = k then c else 0) = c := by
  induction n with
  | zero => omega
  | succ n ih =>
    simp only [rs]
    by_cases e : k = n
    · subst e
      rw [if_pos rfl, rs_congr (G := fun _ => 0) fun i hi => if_neg (by omega), rs_zero]; omega
    · rw [ih (by omega), if_neg (by omega)]; omega
theorem rs_nonneg {n : Nat} {F : Nat → Int} (h : ∀ i, i < n → 0 ≤ F i) : 0 ≤ rs n F := by
  have := rs_le (n := n) (F := fun _ => 0) (G := F) h
  rw [rs_zero] at this; exact this
theorem rs_ge_one {n k : Nat} {F : Nat → Int} (h : ∀ i, i < n → 0 ≤ F i) (hk : k < n) : F k ≤ rs n F := by
  have e := rs_one n k (F k) hk
  rw [← e]
  refine rs_le fun i hi => ?_
  by_cases q : i = k
  · subst q; rw [if_pos rfl]; exact Int.le_refl _
  · rw [if_neg q]; exact h i hi

/-- the sum over a list -/
def ls {α : Type} (l : List α) (F : α → Int) : Int := (l.map F).sum
theorem ls_nil {α : Type} (F : α → Int) : ls [] F = 0 := rfl
theorem ls_cons {α : Type} (a : α) (l : List α) (F : α → Int) : ls (a :: l) F = F a + ls l F := by simp [ls]
theorem ls_append {α : Type} (l m : List α) (F : α → Int) : ls (l ++ m) F = ls l F + ls m F := by
  induction l with
  | nil => simp [ls]
  | cons a l ih => rw [List.cons_append, ls_cons, ls_cons, ih]; omega
theorem ls_congr {α : Type} {l : List α} {F G : α → Int} (h : ∀ a ∈ l, F a = G a) : ls l F = ls l G := by
  induction l with
  | nil => rfl
  | cons a l ih => rw [ls_cons, ls_cons, h a (List.mem_cons_self ..), ih fun b hb => h b (List.mem_cons_of_mem _ hb)]
theorem ls_le {α : Type} {l : List α} {F G : α → Int} (h : ∀ a ∈ l, F a ≤ G a) : ls l F ≤ ls l G := by
  induction l with
  | nil => exact Int.le_refl _
  | cons a l ih =>
    have x := h a (List.mem_cons_self ..)
    have y := ih fun b hb => h b (List.mem_cons_of_mem _ hb)
    rw [ls_cons, ls_cons]; omega
theorem ls_nonneg {α : Type} {l : List α} {F : α → Int} (h : ∀ a ∈ l, 0 ≤ F a) : 0 ≤ ls l F := by
  induction l with
  | nil => exact Int.le_refl _
  | cons a l ih =>
    have x := h a (List.mem_cons_self ..)
    have y := ih fun b hb => h b (List.mem_cons_of_mem _ hb)
    rw [ls_cons]; omega
theorem ls_zero {α : Type} (l : List α) : ls l (fun _ => 0) = 0 := by
  induction l with
  | nil => rfl
  | cons a l ih => rw [ls_cons, ih]; rfl
theorem ls_add {α : Type} (l : List α) (F G : α → Int) : ls l (fun a => F a + G a) = ls l F + ls l G := by
  induction l with
  | nil => rfl
  | cons a l ih => rw [ls_cons, ls_cons, ls_cons, ih]; omega
theorem ls_rs {α : Type} (l : List α) (n : Nat) (F : α → Nat → Int) : ls l (fun a => rs n (F a)) = rs n (fun i => ls l fun a => F a i) := by
  induction l with
  | nil => rw [ls_nil]; exact (rs_zero n).symm
  | cons a l ih => rw [ls_cons, ih, ← rs_add]; exact rs_congr fun i _ => (ls_cons a l (fun a => F a i)).symm
theorem ls_map {α β : Type} (l : List α) (f : α → β) (F : β → Int) : ls (l.map f) F = ls l (fun a => F (f a)) := by
  unfold ls; rw [List.map_map]; rfl
theorem ls_filter_le {α : Type} (l : List α) (p : α → Bool) (F : α → Int) (h : ∀ a ∈ l, 0 ≤ F a) : ls (l.filter p) F ≤ ls l F := by
  induction l with
  | nil => exact Int.le_refl _
  | cons a l ih =>
    have x := h a (List.mem_cons_self ..)
    have y := ih fun b hb => h b (List.mem_cons_of_mem _ hb)
    rw [List.filter_cons]
    split
    · rw [ls_cons, ls_cons]; omega
    · rw [ls_cons]; omega
theorem ls_filter {α : Type} (l : List α) (p : α → Bool) (F : α → Int) : ls (l.filter p) F = ls l (fun a => if p a = true then F a else 0) := by
  induction l with
  | nil => rfl
  | cons a l ih =>
    rw [List.filter_cons]
    split
    · rename_i h; rw [ls_cons, ls_cons, ih, if_pos h]
    · rename_i h; rw [ls_cons, ih, if_neg h]; omega
theorem rs_head (n : Nat) (F : Nat → Int) : rs (n + 1) F = F 0 + rs n (fun i => F (i + 1)) := by
  induction n with
  | zero => simp [rs]
  | succ n ih =>
    have e : rs (n + 1 + 1) F = rs (n + 1) F + F (n + 1) := rfl
    have e2 : rs (n + 1) (fun i => F (i + 1)) = rs n (fun i => F (i + 1)) + F (n + 1) := rfl
    rw [e, e2, ih]; omega
theorem ls_getD {α : Type} (d : α) (F : α → Int) : ∀ l : List α, ls l F = rs l.length (fun i => F (l.getD i d))
  | [] => rfl
  | a :: l => by
    rw [ls_cons, ls_getD d F l, List.length_cons, rs_head]
    rfl

/-! ### assoc lists -/
section
variable {κ β : Type} [DecidableEq κ]
def aget (d : List (κ × β)) (k : κ) : Option β := (d.find? fun kv => decide (kv.1 = k)).map (·.2)
def aput (d : List (κ × β)) (k : κ) (v : β) : List (κ × β) :=
  if (d.any fun kv => decide (kv.1 = k)) = true then d.map (fun kv => if kv.1 = k then (kv.1, v) else kv) else d ++ [(k, v)]
theorem aget_nil {k : κ} : aget ([] : List (κ × β)) k = none := rfl
theorem aget_pos {p : κ × β} {r : List (κ × β)} {k : κ} (e : p.1 = k) : aget (p :: r) k = some p.2 := by simp [aget, List.find?_cons, e]
theorem aget_neg {p : κ × β} {r : List (κ × β)} {k : κ} (e : ¬ p.1 = k) : aget (p :: r) k = aget r k := by simp [aget, List.find?_cons, e]
theorem aget_any (k : κ) : ∀ d : List (κ × β), (d.any fun kv => decide (kv.1 = k)) = (aget d k).isSome
  | [] => rfl
  | p :: r => by
    rw [List.any_cons]
    by_cases e : p.1 = k
    · simp only [aget_pos e, decide_eq_true e, Bool.true_or, Option.isSome_some]
    · rw [aget_neg e, decide_eq_false e, Bool.false_or]; exact aget_any k r
theorem aget_map (k j : κ) (y : β) : ∀ d : List (κ × β), aget (d.map fun kv => if kv.1 = k then (kv.1, y) else kv) j = (aget d j).map fun x => if j = k then y else x
  | [] => rfl
  | p :: r => by
    have ih := aget_map k j y r
    rw [List.map_cons]
    by_cases h : p.1 = k
    · rw [if_pos h]
      by_cases e : p.1 = j
      · rw [aget_pos (p := (p.1, y)) e, aget_pos e, Option.map_some, if_pos (e.symm.trans h)]
      · rw [aget_neg (p := (p.1, y)) e, aget_neg e, ih]
    · rw [if_neg h]
      by_cases e : p.1 = j
      · rw [aget_pos (p := p) e, aget_pos e, Option.map_some, if_neg (fun z => h (e.trans z))]
      · rw [aget_neg (p := p) e, aget_neg e, ih]
theorem aget_snoc (k j : κ) (y : β) : ∀ d : List (κ × β), aget d k = none → aget (d ++ [(k, y)]) j = if j = k then some y else aget d j
  | [], _ => by
    by_cases e : k = j
    · rw [if_pos e.symm]; exact aget_pos (p := (k, y)) e
    · rw [if_neg (fun z => e z.symm)]; exact aget_neg (p := (k, y)) e
  | p :: r, hn => by
    have hk : ¬ p.1 = k := fun z => by rw [aget_pos z] at hn; cases hn
    rw [aget_neg hk] at hn
    have ih := aget_snoc k j y r hn
    rw [List.cons_append]
    by_cases e : p.1 = j
    · rw [aget_pos e, aget_pos e, if_neg (fun z => hk (e.trans z))]
    · rw [aget_neg e, aget_neg e, ih]
theorem aget_put (d : List (κ × β)) (k j : κ) (y : β) : aget (aput d k y) j = if j = k then some y else aget d j := by
  unfold aput
  split
  · rename_i a
    rw [aget_map]
    rw [aget_any] at a
    by_cases e : j = k
    · subst e
      cases q : aget d j with
      | none => rw [q] at a; cases a
      | some x => rw [if_pos rfl, Option.map_some, if_pos rfl]
    · rw [if_neg e]
      cases aget d j with
      | none => rfl
      | some x => rw [Option.map_some, if_neg e]
  · rename_i a
    refine aget_snoc k j y d ?_
    rw [aget_any] at a
    cases q : aget d k with
    | none => rfl
    | some x => rw [q] at a; exact absurd rfl a
theorem aput_new {d : List (κ × β)} {k : κ} (v : β) (h : aget d k = none) : aput d k v = d ++ [(k, v)] := by
  unfold aput; rw [aget_any, h]; rfl
theorem length_aput (d : List (κ × β)) (k : κ) (v : β) : (aput d k v).length ≤ d.length + 1 := by
  unfold aput; split <;> simp
def keys (d : List (κ × β)) : List κ := d.map (·.1)
theorem keys_aput (d : List (κ × β)) (k : κ) (v : β) : keys (aput d k v) = if (aget d k).isSome = true then keys d else keys d ++ [k] := by
  unfold aput keys
  rw [aget_any]
  split
  · rw [List.map_map]
    refine List.map_congr_left fun p _ => ?_
    show (if p.1 = k then (p.1, v) else p).1 = p.1
    split <;> rfl
  · simp
theorem aget_some_mem {d : List (κ × β)} {k : κ} {v : β} (h : aget d k = some v) : (k, v) ∈ d := by
  induction d with
  | nil => cases h
  | cons p r ih =>
    by_cases e : p.1 = k
    · rw [aget_pos e] at h
      cases h
      subst e
      exact List.mem_cons_self ..
    · rw [aget_neg e] at h
      exact List.mem_cons_of_mem _ (ih h)
theorem aget_isSome_keys {d : List (κ × β)} {k : κ} : (aget d k).isSome = true ↔ k ∈ keys d := by
  induction d with
  | nil => simp [aget, keys]
  | cons p r ih =>
    unfold keys at ih ⊢
    rw [List.map_cons, List.mem_cons]
    by_cases e : p.1 = k
    · rw [aget_pos e]; simp [e]
    · rw [aget_neg e, ih]
      exact ⟨Or.inr, fun h => h.elim (fun z => absurd z.symm e) id⟩
theorem aget_of_mem {d : List (κ × β)} (hn : (keys d).Nodup) {k : κ} {v : β} (h : (k, v) ∈ d) : aget d k = some v := by
  induction d with
  | nil => cases h
  | cons p r ih =>
    unfold keys at hn ih
    rw [List.map_cons, List.nodup_cons] at hn
    rcases List.mem_cons.mp h with e | hr
    · subst e; exact aget_pos rfl
    · have : ¬ p.1 = k := fun e => hn.1 (e ▸ List.mem_map_of_mem (f := (·.1)) hr)
      rw [aget_neg this]; exact ih hn.2 hr
theorem nodup_aput {d : List (κ × β)} {k : κ} {v : β} (h : (keys d).Nodup) : (keys (aput d k v)).Nodup := by
  rw [keys_aput]
  split
  · exact h
  · rename_i q
    rw [List.nodup_append]
    refine ⟨h, by simp, fun a ha b hb => ?_⟩
    rw [List.mem_singleton] at hb
    subst hb
    intro e
    subst e
    exact q (aget_isSome_keys.mpr ha)
theorem mem_aput {d : List (κ × β)} {k : κ} {v : β} {kv : κ × β} (h : kv ∈ aput d k v) : kv = (k, v) ∨ kv ∈ d := by
  unfold aput at h
  split at h
  · obtain ⟨p, hp, e⟩ := List.mem_map.mp h
    split at e
    · rename_i q; left; rw [← e, q]
    · right; rw [← e]; exact hp
  · rcases List.mem_append.mp h with h | h
    · exact Or.inr h
    · exact Or.inl (List.mem_singleton.mp h)
end

/-! ### dicts of numbers -/
section
variable {κ : Type} [DecidableEq κ]
def dg (d : List (κ × Int)) (p : κ) : Int := (aget d p).getD 0
def dsum (d : List (κ × Int)) : Int := ls d (·.2)
theorem dg_put (d : List (κ × Int)) (p q : κ) (v : Int) : dg (aput d p v) q = if q = p then v else dg d q := by
  unfold dg; rw [aget_put]; split <;> rfl
theorem dsum_put {d : List (κ × Int)} (hn : (keys d).Nodup) (p : κ) (v : Int) : dsum (aput d p v) = dsum d - dg d p + v := by
  unfold aput
  rw [aget_any]
  split
  · rename_i a
    induction d with
    | nil => cases a
    | cons x r ih =>
      unfold keys at hn
      rw [List.map_cons, List.nodup_cons] at hn
      have tail : ∀ l : List (κ × Int), p ∉ l.map (·.1) → l.map (fun kv => if kv.1 = p then (kv.1, v) else kv) = l := fun l hl => by
        induction l with
        | nil => rfl
        | cons y l ihl =>
          rw [List.map_cons, List.mem_cons] at hl
          rw [List.map_cons, ihl fun z => hl (Or.inr z), if_neg fun e => hl (Or.inl e.symm)]
      unfold dsum
      rw [List.map_cons, ls_cons, ls_cons]
      by_cases e : x.1 = p
      · rw [if_pos e, tail r (e ▸ hn.1)]
        unfold dg; rw [aget_pos e]
        show v + _ = _ - x.2 + v
        omega
      · rw [if_neg e]
        have a' : (aget r p).isSome = true := by rw [aget_neg e] at a; exact a
        have := ih hn.2 a'
        unfold dsum at this
        unfold dg at this ⊢
        rw [this, aget_neg e]
        omega
  · rename_i a
    have e : aget d p = none := by
      cases q : aget d p with
      | none => rfl
      | some x => rw [q] at a; exact absurd rfl a
    unfold dsum dg
    rw [ls_append, ls_cons, ls_nil, e]
    show _ + (v + 0) = _ - 0 + v
    omega
theorem dg_nonneg {d : List (κ × Int)} (h : ∀ kv ∈ d, 0 ≤ kv.2) (p : κ) : 0 ≤ dg d p := by
  unfold dg
  cases e : aget d p with
  | none => exact Int.le_refl _
  | some v => exact h _ (aget_some_mem e)
theorem dg_pos_mem {d : List (κ × Int)} {p : κ} (h : 0 < dg d p) : (p, dg d p) ∈ d := by
  unfold dg at h ⊢
  cases e : aget d p with
  | none => rw [e] at h; exact absurd h (by decide)
  | some v => exact aget_some_mem e
theorem dg_pos_some {d : List (κ × Int)} {p : κ} (h : 0 < dg d p) : aget d p = some (dg d p) := by
  unfold dg at h ⊢
  cases e : aget d p with
  | none => rw [e] at h; exact absurd h (by decide)
  | some v => rfl
theorem dg_of_mem {d : List (κ × Int)} (hn : (keys d).Nodup) {p : κ} {v : Int} (h : (p, v) ∈ d) : dg d p = v := by
  unfold dg; rw [aget_of_mem hn h]; rfl
/-- some of its keys, each once, have no more together than all -/
theorem dsum_ge {d : List (κ × Int)} (hn : (keys d).Nodup) (h0 : ∀ kv ∈ d, 0 ≤ kv.2) : ∀ (P : List κ), P.Nodup → ls P (dg d) ≤ dsum d := by
  intro P
  induction P generalizing d with
  | nil => intro _; rw [ls_nil]; exact ls_nonneg fun a ha => h0 a ha
  | cons p P ih =>
    intro hP
    rw [List.nodup_cons] at hP
    rw [ls_cons]
    -- take p out
    have hd : dsum d = dg d p + dsum (d.filter fun kv => decide (kv.1 ≠ p)) := by
      clear ih h0
      induction d with
      | nil => rfl
      | cons x r ihr =>
        unfold keys at hn
        rw [List.map_cons, List.nodup_cons] at hn
        unfold dsum at ihr ⊢
        rw [ls_cons, List.filter_cons]
        by_cases e : x.1 = p
        · rw [if_neg (by simp [e])]
          have : r.filter (fun kv => decide (kv.1 ≠ p)) = r := List.filter_eq_self.mpr fun kv hkv => by
            simp only [decide_eq_true_eq]
            intro e2
            exact hn.1 (by rw [e, ← e2]; exact List.mem_map_of_mem (f := (·.1)) hkv)
          rw [this]; unfold dg; rw [aget_pos e]; rfl
        · rw [if_pos (by simp [e]), ls_cons, ihr hn.2]
          unfold dg; rw [aget_neg e]; omega
    have hf : ∀ q, q ≠ p → dg (d.filter fun kv => decide (kv.1 ≠ p)) q = dg d q := fun q hq => by
      unfold dg
      congr 1
      clear ih h0 hd hn
      induction d with
      | nil => rfl
      | cons x r ihr =>
        rw [List.filter_cons]
        by_cases e : x.1 = p
        · rw [if_neg (by simp [e]), aget_neg (fun z => hq (z.symm.trans e)), ihr]
        · rw [if_pos (by simp [e])]
          by_cases e2 : x.1 = q
          · rw [aget_pos e2, aget_pos e2]
          · rw [aget_neg e2, aget_neg e2, ihr]
    have hk : (keys (d.filter fun kv => decide (kv.1 ≠ p))).Nodup := by
      unfold keys at hn ⊢
      exact List.Sublist.nodup (List.Sublist.map _ (List.filter_sublist ..)) hn
    have := ih hk (fun kv hkv => h0 kv (List.mem_filter.mp hkv).1) hP.2
    have e3 : ls P (dg (d.filter fun kv => decide (kv.1 ≠ p))) = ls P (dg d) := ls_congr fun q hq => hf q fun e => hP.1 (e ▸ hq)
    omega
end
end PM
end
section
/-! Plain mathematics: parts led to wants, others exchanged; or a bar. -/
namespace PM
set_option linter.all false
section
variable {τ : Type} [DecidableEq τ]
abbrev Part (τ : Type) := τ × τ
abbrev Dict (τ : Type) := List (Part τ × Int)
/-- a want: its form, its shades (none: any), how many -/
structure Want (τ : Type) where
  f : τ
  sh : List τ
  n : Int
abbrev Rows (τ : Type) := List (τ × τ × Int)
def letsL (rows : Rows τ) (w : Want τ) : List (Part τ) := if w.sh = [] then (rows.filter fun r => decide (r.1 = w.f)).map (fun r => (r.1, r.2.1)) else w.sh.map (fun s => (w.f, s))
theorem letsL_form {rows : Rows τ} {w : Want τ} {p : Part τ} (h : p ∈ letsL rows w) : p.1 = w.f := by
  unfold letsL at h
  split at h
  · obtain ⟨r, hr, rfl⟩ := List.mem_map.mp h
    have := (List.mem_filter.mp hr).2
    simpa using this
  · obtain ⟨s, _, rfl⟩ := List.mem_map.mp h; rfl
/-- how many there are of a part, of a form -/
def manyP (rows : Rows τ) (f s : τ) : Int := ls (rows.filter fun r => decide (r.1 = f) && decide (r.2.1 = s)) (·.2.2)
def manyF (rows : Rows τ) (f : τ) : Int := ls (rows.filter fun r => decide (r.1 = f)) (·.2.2)

structure Inv (rows : Rows τ) (W : Nat → Want τ) (n : Nat) (g : Nat → Dict τ) (l : Dict τ) (lk : Nat → Int) : Prop where
  gn : ∀ i, i < n → (keys (g i)).Nodup
  g0 : ∀ i, i < n → ∀ kv ∈ g i, 0 ≤ kv.2
  ln : (keys l).Nodup
  l0 : ∀ kv ∈ l, 0 ≤ kv.2
  k0 : ∀ i, i < n → 0 ≤ lk i
  lets : ∀ i, i < n → ∀ kv ∈ g i, kv.1 ∈ letsL rows (W i)
  tot : ∀ p : Part τ, dg l p + rs n (fun i => dg (g i) p) = manyP rows p.1 p.2
  sum : ∀ i, i < n → dsum (g i) + lk i = (W i).n
/-- whoever is in S, and a part that it lets: none is left, and who has of it is in S -/
def Closed (rows : Rows τ) (W : Nat → Want τ) (n : Nat) (g : Nat → Dict τ) (l : Dict τ) (S : Nat → Prop) : Prop :=
  ∀ i, i < n → S i → ∀ p ∈ letsL rows (W i), dg l p ≤ 0 ∧ ∀ j, j < n → 0 < dg (g j) p → S j

/-! ### the way back -/
abbrev Way (τ : Type) := List (Nat × Part τ × Option (Part τ))
inductive Path (parts : List (Part τ × Nat)) (holders : List (Nat × Option (Part τ))) : Part τ → Way τ → Prop
  | last {p : Part τ} {i : Nat} : aget parts p = some i → aget holders i = some none → Path parts holders p [(i, p, none)]
  | step {p q : Part τ} {i : Nat} {way : Way τ} : aget parts p = some i → aget holders i = some (some q) → Path parts holders q way → Path parts holders p ((i, p, some q) :: way)
/-- what is known of parts and holders while they grow; r: a rank by which each way back falls -/
structure Spr (rows : Rows τ) (W : Nat → Want τ) (n : Nat) (g : Nat → Dict τ) (k : Nat) (parts : List (Part τ × Nat)) (holders : List (Nat × Option (Part τ))) (r : Part τ → Nat) : Prop where
  hk : aget holders k = some none
  lt : ∀ i o, aget holders i = some o → i < n
  nn : ∀ i, aget holders i = some none → i = k
  gv : ∀ i q, aget holders i = some (some q) → 0 < dg (g i) q ∧ (aget parts q).isSome = true ∧ q ∈ letsL rows (W i)
  pa : ∀ p i, aget parts p = some i → p ∈ letsL rows (W i) ∧ (aget holders i).isSome = true
  rk : ∀ p i q, aget parts p = some i → aget holders i = some (some q) → r q < r p
  fm : ∀ i o, aget holders i = some o → (W i).f = (W k).f
/-- its end: a part that is left, or all is closed -/
structure SprEnd (rows : Rows τ) (W : Nat → Want τ) (n : Nat) (g : Nat → Dict τ) (l : Dict τ) (k : Nat) (parts : List (Part τ × Nat)) (holders : List (Nat × Option (Part τ))) (o : Option (Part τ)) : Prop where
  spr : ∃ r, Spr rows W n g k parts holders r
  some_ : ∀ p, o = some p → (aget parts p).isSome = true ∧ 0 < dg l p
  none_ : o = none → Closed rows W n g l (fun i => (aget holders i).isSome = true)
variable {rows : Rows τ} {W : Nat → Want τ} {n k : Nat} {g : Nat → Dict τ} {l : Dict τ} {lk : Nat → Int} {parts : List (Part τ × Nat)} {holders : List (Nat × Option (Part τ))} {r : Part τ → Nat}

theorem Spr.path (S : Spr rows W n g k parts holders r) : ∀ (m : Nat) (p : Part τ), r p < m → (aget parts p).isSome = true → ∃ way, Path parts holders p way := by
  intro m
  induction m with
  | zero => intro p h; omega
  | succ m ih =>
    intro p h hp
    cases e : aget parts p with
    | none => rw [e] at hp; cases hp
    | some i =>
      cases e2 : aget holders i with
      | none => have := (S.pa p i e).2; rw [e2] at this; cases this
      | some o =>
        cases o with
        | none => exact ⟨_, .last e e2⟩
        | some q =>
          have := S.rk p i q e e2
          obtain ⟨way, hw⟩ := ih q (by omega) (S.gv i q e2).2.1
          exact ⟨_, .step e e2 hw⟩
/-- all that is given up on the way is of a lesser rank -/
theorem Path.rank (S : Spr rows W n g k parts holders r) {p : Part τ} {way : Way τ} (h : Path parts holders p way) : ∀ e ∈ way, ∀ q, e.2.2 = some q → r q < r p := by
  induction h with
  | last _ _ =>
    intro e he q hq
    rw [List.mem_singleton] at he; subst he; cases hq
  | step e1 e2 _ ih =>
    intro e he q hq
    have h1 := S.rk _ _ _ e1 e2
    rcases List.mem_cons.mp he with rfl | he
    · cases hq; exact h1
    · have := ih e he q hq; omega
theorem Path.lt (S : Spr rows W n g k parts holders r) {p : Part τ} {way : Way τ} (h : Path parts holders p way) : ∀ e ∈ way, e.1 < n := by
  induction h with
  | last e1 e2 =>
    intro e he
    rw [List.mem_singleton] at he; subst he; exact S.lt _ _ e2
  | step e1 e2 _ ih =>
    intro e he
    rcases List.mem_cons.mp he with rfl | he
    · exact S.lt _ _ e2
    · exact ih e he
theorem Path.got (S : Spr rows W n g k parts holders r) {p : Part τ} {way : Way τ} (h : Path parts holders p way) : ∀ e ∈ way, e.2.1 ∈ letsL rows (W e.1) := by
  induction h with
  | last e1 e2 =>
    intro e he
    rw [List.mem_singleton] at he; subst he; exact (S.pa _ _ e1).1
  | step e1 e2 _ ih =>
    intro e he
    rcases List.mem_cons.mp he with rfl | he
    · exact (S.pa _ _ e1).1
    · exact ih e he
theorem Path.gave (S : Spr rows W n g k parts holders r) {p : Part τ} {way : Way τ} (h : Path parts holders p way) : ∀ e ∈ way, ∀ q, e.2.2 = some q → 0 < dg (g e.1) q := by
  induction h with
  | last e1 e2 =>
    intro e he q hq
    rw [List.mem_singleton] at he; subst he; cases hq
  | step e1 e2 _ ih =>
    intro e he q hq
    rcases List.mem_cons.mp he with rfl | he
    · cases hq; exact (S.gv _ _ e2).1
    · exact ih e he q hq
/-- what is got on the way: the first part, or what one ahead gives up; and a closed set that the first part's takers aren't in is never met -/
theorem Path.avoid (S : Spr rows W n g k parts holders r) {T : Nat → Prop} (C : Closed rows W n g l T) {p : Part τ} {way : Way τ} (h : Path parts holders p way)
    (hp : ∀ i, i < n → p ∈ letsL rows (W i) → ¬ T i) : (∀ e ∈ way, ¬ T e.1 ∧ ∀ i, i < n → e.2.1 ∈ letsL rows (W i) → ¬ T i) ∧ ¬ T k := by
  induction h with
  | last e1 e2 =>
    have hi := S.lt _ _ e2
    have hm := (S.pa _ _ e1).1
    have ek := S.nn _ e2
    refine ⟨fun e he => ?_, ?_⟩
    · rw [List.mem_singleton] at he; subst he
      exact ⟨hp _ hi hm, hp⟩
    · rw [← ek]; exact hp _ hi hm
  | step e1 e2 _ ih =>
    have hi := S.lt _ _ e2
    have hm := (S.pa _ _ e1).1
    have hg := (S.gv _ _ e2).1
    have nT := hp _ hi hm
    obtain ⟨a, b⟩ := ih fun j hj hq hT => nT ((C j hj hT _ hq).2 _ hi hg)
    refine ⟨fun e he => ?_, b⟩
    rcases List.mem_cons.mp he with rfl | he
    · exact ⟨nT, hp⟩
    · exact a e he
theorem SprEnd.none_of_closed {o : Option (Part τ)} (E : SprEnd rows W n g l k parts holders o) {T : Nat → Prop} (C : Closed rows W n g l T) (hk : T k) : o = none := by
  cases o with
  | none => rfl
  | some p =>
    obtain ⟨r, S⟩ := E.spr
    obtain ⟨h1, h2⟩ := E.some_ p rfl
    obtain ⟨way, hw⟩ := S.path (r p + 1) p (by omega) h1
    exact absurd hk (hw.avoid S C fun i hi hp hT => by have := (C i hi hT p hp).1; omega).2

/-! ### leading parts along the way -/
def stepG (m : Int) (g : Nat → Dict τ) (e : Nat × Part τ × Option (Part τ)) : Nat → Dict τ :=
  let d1 := aput (g e.1) e.2.1 (dg (g e.1) e.2.1 + m)
  let d2 := match e.2.2 with
    | none => d1
    | some q => aput d1 q (dg d1 q - m)
  fun j => if j = e.1 then d2 else g j
def applyG (m : Int) (g : Nat → Dict τ) (way : Way τ) : Nat → Dict τ := way.foldl (stepG m) g
theorem stepG_ne {m : Int} {e : Nat × Part τ × Option (Part τ)} {j : Nat} (h : j ≠ e.1) : stepG m g e j = g j := if_neg h
theorem stepG_dg (m : Int) (e : Nat × Part τ × Option (Part τ)) (j : Nat) (q : Part τ) : dg (stepG m g e j) q = dg (g j) q + if j = e.1 then (if q = e.2.1 then m else 0) - (if e.2.2 = some q then m else 0) else 0 := by
  by_cases h : j = e.1
  · subst h
    rw [if_pos rfl]
    unfold stepG
    simp only [if_true]
    obtain ⟨i, p, gu⟩ := e
    cases gu with
    | none =>
      simp only
      rw [dg_put]
      by_cases h1 : q = p
      · subst h1; simp
      · rw [if_neg h1, if_neg h1]; simp
    | some u =>
      simp only
      rw [dg_put, dg_put, dg_put]
      by_cases h2 : q = u
      · subst h2
        rw [if_pos rfl, if_pos rfl]
        by_cases h1 : q = p
        · subst h1; rw [if_pos rfl, if_pos rfl]; omega
        · rw [if_neg h1, if_neg h1]; omega
      · rw [if_neg h2, if_neg (fun z => h2 (Option.some.inj z).symm)]
        by_cases h1 : q = p
        · subst h1; rw [if_pos rfl, if_pos rfl]; omega
        · rw [if_neg h1, if_neg h1]; omega
  · rw [if_neg h, stepG_ne h]; omega
theorem stepG_nodup {m : Int} {e : Nat × Part τ × Option (Part τ)} {j : Nat} (h : (keys (g j)).Nodup) : (keys (stepG m g e j)).Nodup := by
  by_cases hj : j = e.1
  · subst hj
    unfold stepG
    simp only [if_true]
    obtain ⟨i, p, gu⟩ := e
    cases gu with
    | none => exact nodup_aput h
    | some u => exact nodup_aput (nodup_aput h)
  · rw [stepG_ne hj]; exact h
theorem stepG_dsum {m : Int} {e : Nat × Part τ × Option (Part τ)} {j : Nat} (h : (keys (g j)).Nodup) : dsum (stepG m g e j) = dsum (g j) + if j = e.1 then (if e.2.2 = none then m else 0) else 0 := by
  by_cases hj : j = e.1
  · subst hj
    unfold stepG
    simp only [if_true]
    obtain ⟨i, p, gu⟩ := e
    cases gu with
    | none =>
      have h' : (keys (g i)).Nodup := h
      have e1 := dsum_put h' p (dg (g i) p + m)
      show dsum (aput (g i) p (dg (g i) p + m)) = dsum (g i) + if (none : Option (Part τ)) = none then m else 0
      rw [if_pos rfl, e1]; omega
    | some u =>
      have h' : (keys (g i)).Nodup := h
      have e1 := dsum_put h' p (dg (g i) p + m)
      have e2 := dsum_put (nodup_aput (k := p) (v := dg (g i) p + m) h') u (dg (aput (g i) p (dg (g i) p + m)) u - m)
      show dsum (aput (aput (g i) p (dg (g i) p + m)) u (dg (aput (g i) p (dg (g i) p + m)) u - m)) = dsum (g i) + if (some u) = none then m else 0
      rw [if_neg (by intro z; cases z), e2, e1]; omega
  · rw [stepG_ne hj, if_neg hj]; omega
theorem stepG_mem {m : Int} {e : Nat × Part τ × Option (Part τ)} {j : Nat} {kv : Part τ × Int} (h : kv ∈ stepG m g e j) : kv ∈ g j ∨ (j = e.1 ∧ kv.1 = e.2.1) ∨ (j = e.1 ∧ e.2.2 = some kv.1) := by
  by_cases hj : j = e.1
  · subst hj
    unfold stepG at h
    simp only [if_true] at h
    obtain ⟨i, p, gu⟩ := e
    cases gu with
    | none =>
      rcases mem_aput h with rfl | h
      · exact Or.inr (Or.inl ⟨rfl, rfl⟩)
      · exact Or.inl h
    | some u =>
      rcases mem_aput h with rfl | h
      · exact Or.inr (Or.inr ⟨rfl, rfl⟩)
      · rcases mem_aput h with rfl | h
        · exact Or.inr (Or.inl ⟨rfl, rfl⟩)
        · exact Or.inl h
  · rw [stepG_ne hj] at h; exact Or.inl h

/-- what a way does: the sum of the first part rises, each want's sum but the beginner's stays -/
theorem apply_all (S : Spr rows W n g k parts holders r) {m : Int} (hm : 0 ≤ m) {p : Part τ} {way : Way τ} (h : Path parts holders p way) :
    ∀ g' : Nat → Dict τ, (∀ i, i < n → (keys (g' i)).Nodup) → (∀ i, i < n → ∀ kv ∈ g' i, kv.1 ∈ letsL rows (W i)) → (∀ i, i < n → ∀ q, 0 ≤ dg (g' i) q) → (∀ e ∈ way, ∀ q, e.2.2 = some q → m ≤ dg (g' e.1) q) →
      (∀ i, i < n → (keys (applyG m g' way i)).Nodup) ∧ (∀ i, i < n → ∀ kv ∈ applyG m g' way i, kv.1 ∈ letsL rows (W i)) ∧ (∀ i, i < n → ∀ q, 0 ≤ dg (applyG m g' way i) q) ∧
      (∀ q, rs n (fun i => dg (applyG m g' way i) q) = rs n (fun i => dg (g' i) q) + if q = p then m else 0) ∧
      (∀ i, i < n → dsum (applyG m g' way i) = dsum (g' i) + if i = k then m else 0) ∧
      (∀ i q, (∀ e ∈ way, e.2.1 ≠ q) → dg (applyG m g' way i) q ≤ dg (g' i) q) := by
  induction h with
  | @last p i e1 e2 =>
    intro g' hn hl h0 hge
    have hi := S.lt _ _ e2
    have ek := S.nn _ e2
    subst ek
    have hp := (S.pa _ _ e1).1
    show _ ∧ _
    have ea : applyG m g' [(i, p, none)] = stepG m g' (i, p, none) := rfl
    rw [ea]
    refine ⟨fun j hj => stepG_nodup (hn j hj), fun j hj kv hkv => ?_, fun j hj q => ?_, fun q => ?_, fun j hj => ?_, fun j q hq => ?_⟩
    · rcases stepG_mem hkv with h | ⟨rfl, h⟩ | ⟨_, h⟩
      · exact hl j hj kv h
      · rw [show kv.1 = p from h]; exact hp
      · cases h
    · rw [stepG_dg]
      have := h0 j hj q
      split
      · split <;> simp <;> omega
      · omega
    · have : ∀ j, dg (stepG m g' (i, p, none) j) q = dg (g' j) q + if j = i then (if q = p then m else 0) else 0 := fun j => by
        rw [stepG_dg]; simp
      rw [rs_congr (fun j _ => this j), rs_add, rs_one n i _ hi]
    · rw [stepG_dsum (hn j hj)]; simp
    · rw [stepG_dg]
      have : ¬ q = p := fun z => hq _ (List.mem_singleton.mpr rfl) z.symm
      split
      · simp only [if_neg this]; simp
      · omega
  | @step p u i way e1 e2 hw ih =>
    intro g' hn hl h0 hge
    have hi := S.lt _ _ e2
    have hp := (S.pa _ _ e1).1
    have hu : m ≤ dg (g' i) u := hge (i, p, some u) (List.mem_cons_self ..) u rfl
    have ipk : i ≠ k := fun z => by rw [z] at e2; rw [S.hk] at e2; cases e2
    have ea : applyG m g' ((i, p, some u) :: way) = applyG m (stepG m g' (i, p, some u)) way := rfl
    rw [ea]
    have uin : u ∈ letsL rows (W i) := (S.gv _ _ e2).2.2
    obtain ⟨a1, a2, a3, a4, a5, a6⟩ := ih (stepG m g' (i, p, some u)) (fun j hj => stepG_nodup (hn j hj)) (fun j hj kv hkv => by
        rcases stepG_mem hkv with h | ⟨rfl, h⟩ | ⟨rfl, h⟩
        · exact hl j hj kv h
        · rw [show kv.1 = p from h]; exact hp
        · rw [← Option.some.inj h]; exact uin)
      (fun j hj q => by
        rw [stepG_dg]
        have := h0 j hj q
        by_cases hji : j = i
        · subst hji
          rw [if_pos rfl]
          by_cases hq : u = q
          · subst hq
            rw [if_pos rfl]
            show 0 ≤ dg (g' j) u + ((if u = p then m else 0) - m)
            split <;> omega
          · rw [if_neg (fun z => hq (Option.some.inj z))]
            show 0 ≤ dg (g' j) q + ((if q = p then m else 0) - 0)
            split <;> omega
        · rw [if_neg hji]; omega)
      (fun e he q hq => by
        rw [stepG_dg]
        have h1 := hge e (List.mem_cons_of_mem _ he) q hq
        have h2 := hw.rank S e he q hq
        have h3 : ¬ u = q := fun z => by rw [z] at h2; omega
        rw [if_neg (show ¬ (some u = some q) from fun z => h3 (Option.some.inj z))]
        split
        · split <;> omega
        · omega)
    refine ⟨a1, a2, a3, fun q => ?_, fun j hj => ?_, fun j q hq => ?_⟩
    · rw [a4]
      have : ∀ j, dg (stepG m g' (i, p, some u) j) q = dg (g' j) q + if j = i then ((if q = p then m else 0) - (if q = u then m else 0)) else 0 := fun j => by
        rw [stepG_dg]
        have : (some u = some q) = (q = u) := by
          apply propext; constructor
          · intro z; exact (Option.some.inj z).symm
          · intro z; rw [z]
        simp only [this]
      rw [rs_congr (fun j _ => this j), rs_add, rs_one n i _ hi]
      omega
    · rw [a5 j hj, stepG_dsum (hn j hj)]
      simp
    · have h1 := a6 j q fun e he => hq e (List.mem_cons_of_mem _ he)
      rw [stepG_dg] at h1
      have h2 : ¬ q = p := fun z => hq _ (List.mem_cons_self ..) z.symm
      simp only [if_neg h2] at h1
      split at h1
      · split at h1 <;> omega
      · omega

/-- parts are led along a way -/
theorem augment (I : Inv rows W n g l lk) (S : Spr rows W n g k parts holders r) {m : Int} (hm : 0 ≤ m) {p : Part τ} {way : Way τ} (h : Path parts holders p way) (hl : m ≤ dg l p) (hk : m ≤ lk k)
    (hge : ∀ e ∈ way, ∀ q, e.2.2 = some q → m ≤ dg (g e.1) q) :
    Inv rows W n (applyG m g way) (aput l p (dg l p - m)) (fun i => if i = k then lk k - m else lk i) := by
  obtain ⟨a1, a2, a3, a4, a5, a6⟩ := apply_all S hm h g I.gn I.lets (fun i hi q => dg_nonneg (I.g0 i hi) q) hge
  refine ⟨a1, fun i hi kv hkv => ?_, nodup_aput I.ln, fun kv hkv => ?_, fun i hi => ?_, a2, fun q => ?_, fun i hi => ?_⟩
  · rw [← dg_of_mem (a1 i hi) (p := kv.1) (v := kv.2) hkv]; exact a3 i hi _
  · rcases mem_aput hkv with rfl | h
    · show 0 ≤ dg l p - m; omega
    · exact I.l0 _ h
  · show 0 ≤ if i = k then lk k - m else lk i
    have := I.k0 i hi
    split <;> omega
  · rw [a4, dg_put]
    have := I.tot q
    split
    · rename_i e; subst e; omega
    · omega
  · rw [a5 i hi]
    have := I.sum i hi
    show dsum (g i) + (if i = k then m else 0) + (if i = k then lk k - m else lk i) = (W i).n
    by_cases e : i = k
    · subst e; rw [if_pos rfl, if_pos rfl]; omega
    · rw [if_neg e, if_neg e]; omega
theorem closed_stays (I : Inv rows W n g l lk) (S : Spr rows W n g k parts holders r) {m : Int} (hm : 0 ≤ m) {p : Part τ} {way : Way τ} (h : Path parts holders p way) (h0 : 0 < dg l p)
    (hge : ∀ e ∈ way, ∀ q, e.2.2 = some q → m ≤ dg (g e.1) q) {T : Nat → Prop} (C : Closed rows W n g l T) : Closed rows W n (applyG m g way) (aput l p (dg l p - m)) T := by
  obtain ⟨a1, a2, a3, a4, a5, a6⟩ := apply_all S hm h g I.gn I.lets (fun i hi q => dg_nonneg (I.g0 i hi) q) hge
  have hp : ∀ i, i < n → p ∈ letsL rows (W i) → ¬ T i := fun i hi hpi hT => by have := (C i hi hT p hpi).1; omega
  have av := (h.avoid S C hp).1
  intro i hi hT q hq
  obtain ⟨c1, c2⟩ := C i hi hT q hq
  have hqp : ¬ q = p := fun z => hp i hi (z ▸ hq) hT
  refine ⟨by rw [dg_put, if_neg hqp]; exact c1, fun j hj hd => c2 j hj ?_⟩
  have := a6 j q fun e he z => (av e he).2 i hi (z ▸ hq) hT
  omega
/-- .. and the beginner was in none of these -/
theorem closed_avoids (S : Spr rows W n g k parts holders r) {p : Part τ} (hp : (aget parts p).isSome = true) (h0 : 0 < dg l p) {T : Nat → Prop} (C : Closed rows W n g l T) : ¬ T k := by
  obtain ⟨way, hw⟩ := S.path (r p + 1) p (by omega) hp
  exact (hw.avoid S C fun i hi hpi hT => by have := (C i hi hT p hpi).1; omega).2

/-! ### the bar -/
/-- a closed set, one of which lacks: the parts that it lets are fewer than it wants -/
theorem closed_lacks (I : Inv rows W n g l lk) {T : Nat → Bool} (C : Closed rows W n g l (fun i => T i = true)) (hk : k < n) (hT : T k = true) (hl : 0 < lk k) {P : List (Part τ)} (hP : P.Nodup)
    (hin : ∀ p ∈ P, ∃ i, i < n ∧ T i = true ∧ p ∈ letsL rows (W i)) : ls P (fun p => manyP rows p.1 p.2) < rs n (fun i => if T i = true then (W i).n else 0) := by
  have e1 : ls P (fun p => manyP rows p.1 p.2) = ls P (fun p => rs n fun i => if T i = true then dg (g i) p else 0) := ls_congr fun p hp => by
    obtain ⟨i, hi, hTi, hpi⟩ := hin p hp
    obtain ⟨c1, c2⟩ := C i hi hTi p hpi
    have := I.tot p
    have z := dg_nonneg I.l0 p
    have e : rs n (fun i => dg (g i) p) = rs n fun i => if T i = true then dg (g i) p else 0 := rs_congr fun j hj => by
      by_cases q : T j = true
      · rw [if_pos q]
      · rw [if_neg q]
        have := dg_nonneg (I.g0 j hj) p
        by_cases w : 0 < dg (g j) p
        · exact absurd (c2 j hj w) q
        · omega
    omega
  rw [e1, ls_rs]
  refine rs_lt (fun i hi => ?_) hk ?_
  · by_cases q : T i = true
    · simp only [if_pos q]
      have h1 := dsum_ge (I.gn i hi) (I.g0 i hi) P hP
      have h2 := I.sum i hi
      have h3 := I.k0 i hi
      have e : ls P (fun p => dg (g i) p) = ls P (dg (g i)) := rfl
      omega
    · simp only [if_neg q]; rw [ls_zero]; exact Int.le_refl _
  · simp only [if_pos hT]
    have h1 := dsum_ge (I.gn k hk) (I.g0 k hk) P hP
    have h2 := I.sum k hk
    have e : ls P (fun p => dg (g k) p) = ls P (dg (g k)) := rfl
    omega
theorem closed_form (I : Inv rows W n g l lk) {T : Nat → Bool} (C : Closed rows W n g l (fun i => T i = true)) (f : τ) : Closed rows W n g l (fun i => (T i && decide ((W i).f = f)) = true) := by
  intro i hi hT p hp
  obtain ⟨h1, h2⟩ := Bool.and_eq_true_iff.mp hT
  obtain ⟨c1, c2⟩ := C i hi h1 p hp
  refine ⟨c1, fun j hj hd => Bool.and_eq_true_iff.mpr ⟨c2 j hj hd, decide_eq_true ?_⟩⟩
  have h3 := letsL_form (I.lets j hj _ (dg_pos_mem hd))
  have h4 := letsL_form hp
  rw [← h3, h4]; exact of_decide_eq_true h2
/-- how many parts of a form wants want: all; those that want some shades, all among these -/
def wantedF (W : Nat → Want τ) (n : Nat) (f : τ) : Int := rs n fun i => if (W i).f = f then (W i).n else 0
def wantedS (W : Nat → Want τ) (n : Nat) (f : τ) (shs : List τ) : Int := rs n fun i => if (W i).f = f ∧ (W i).sh ≠ [] ∧ ∀ s ∈ (W i).sh, s ∈ shs then (W i).n else 0
theorem manyP_row (hn : (rows.map fun r => (r.1, r.2.1)).Nodup) {x : τ × τ × Int} (hx : x ∈ rows) : manyP rows x.1 x.2.1 = x.2.2 := by
  unfold manyP
  induction rows with
  | nil => cases hx
  | cons y rs ih =>
    rw [List.map_cons, List.nodup_cons] at hn
    rw [List.filter_cons]
    rcases List.mem_cons.mp hx with rfl | hx
    · rw [if_pos (by simp), ls_cons]
      have : rs.filter (fun r => decide (r.1 = x.1) && decide (r.2.1 = x.2.1)) = [] := List.filter_eq_nil_iff.mpr fun z hz q => by
        simp only [Bool.and_eq_true, decide_eq_true_eq] at q
        refine hn.1 ?_
        have : (z.1, z.2.1) ∈ rs.map fun r => (r.1, r.2.1) := List.mem_map_of_mem (f := fun r : τ × τ × Int => (r.1, r.2.1)) hz
        rw [q.1, q.2] at this; exact this
      rw [this, ls_nil]; omega
    · rw [if_neg, ih hn.2 hx]
      intro q
      simp only [Bool.and_eq_true, decide_eq_true_eq] at q
      refine hn.1 ?_
      rw [q.1, q.2]; exact List.mem_map_of_mem (f := fun r : τ × τ × Int => (r.1, r.2.1)) hx
theorem manyF_parts (hn : (rows.map fun r => (r.1, r.2.1)).Nodup) (f : τ) :
    ls ((rows.filter fun r => decide (r.1 = f)).map fun r => (r.1, r.2.1)) (fun p => manyP rows p.1 p.2) = manyF rows f := by
  unfold manyF
  rw [ls_map]
  exact ls_congr fun x hx => manyP_row hn (List.mem_filter.mp hx).1
theorem bar_any (I : Inv rows W n g l lk) (hr : (rows.map fun r => (r.1, r.2.1)).Nodup) (hW : ∀ i, i < n → 0 ≤ (W i).n) {T : Nat → Bool} (C : Closed rows W n g l (fun i => T i = true)) {f : τ} (hk : k < n) (hT : T k = true) (hf : (W k).f = f) (hl : 0 < lk k)
    {i : Nat} (hi : i < n) (hTi : T i = true) (hfi : (W i).f = f) (hs : (W i).sh = []) : manyF rows f < wantedF W n f := by
  have C' := closed_form I C f
  have h := closed_lacks I C' hk (by show (T k && decide ((W k).f = f)) = true; rw [hT, hf]; simp) hl (P := (rows.filter fun r => decide (r.1 = f)).map fun r => (r.1, r.2.1))
    (List.Sublist.nodup (List.Sublist.map _ (List.filter_sublist ..)) hr) (fun p hp => ⟨i, hi, by rw [hTi, hfi]; simp, by unfold letsL; rw [if_pos hs, hfi]; exact hp⟩)
  rw [manyF_parts hr] at h
  refine Int.lt_of_lt_of_le h (rs_le fun j hj => ?_)
  by_cases q : (W j).f = f
  · rw [if_pos q]
    have := hW j hj
    split <;> omega
  · rw [if_neg q, if_neg (by simp [q])]; exact Int.le_refl _
theorem bar_some (I : Inv rows W n g l lk) (hW : ∀ i, i < n → 0 ≤ (W i).n) {T : Nat → Bool} (C : Closed rows W n g l (fun i => T i = true)) {f : τ} (hk : k < n) (hT : T k = true) (hf : (W k).f = f) (hl : 0 < lk k)
    {shs : List τ} (hsn : shs.Nodup) (hs : ∀ i, i < n → T i = true → (W i).f = f → (W i).sh ≠ []) (hin : ∀ s, s ∈ shs ↔ ∃ i, i < n ∧ T i = true ∧ (W i).f = f ∧ s ∈ (W i).sh) :
    ls shs (fun s => manyP rows f s) < wantedS W n f shs := by
  have C' := closed_form I C f
  have h := closed_lacks I C' hk (by show (T k && decide ((W k).f = f)) = true; rw [hT, hf]; simp) hl (P := shs.map fun s => (f, s))
    (by
      clear hin hl hs C C'
      induction shs with
      | nil => exact List.nodup_nil
      | cons a shs ih =>
        rw [List.nodup_cons] at hsn
        rw [List.map_cons, List.nodup_cons]
        refine ⟨fun hm => ?_, ih hsn.2⟩
        obtain ⟨b, hb, e⟩ := List.mem_map.mp hm
        injection e with _ e2
        exact hsn.1 (e2 ▸ hb))
    (fun p hp => by
      obtain ⟨s, hs1, rfl⟩ := List.mem_map.mp hp
      obtain ⟨i, hi, hTi, hfi, hsi⟩ := (hin s).mp hs1
      refine ⟨i, hi, by rw [hTi, hfi]; simp, ?_⟩
      unfold letsL
      rw [if_neg (hs i hi hTi hfi), hfi]
      exact List.mem_map_of_mem (f := fun s => (f, s)) hsi)
  rw [ls_map] at h
  refine Int.lt_of_lt_of_le h (rs_le fun j hj => ?_)
  by_cases q : T j = true ∧ (W j).f = f
  · rw [if_pos (by rw [q.1, q.2]; simp), if_pos ⟨q.2, hs j hj q.1 q.2, fun s hsj => (hin s).mpr ⟨j, hj, q.1, q.2, hsj⟩⟩]; exact Int.le_refl _
  · rw [if_neg (by
      intro z
      simp only [Bool.and_eq_true, decide_eq_true_eq] at z
      exact q z)]
    have := hW j hj
    split <;> omega
end
end PM
end
section
/-! Plain mathematics: the spread, step by step. -/
namespace PM
set_option linter.all false
section
variable {τ : Type} [DecidableEq τ] {rows : Rows τ} {W : Nat → Want τ} {n k : Nat} {g : Nat → Dict τ} {l : Dict τ} {lk : Nat → Int} {parts : List (Part τ × Nat)} {holders : List (Nat × Option (Part τ))} {r : Part τ → Nat}
theorem Spr.start (hk : k < n) : Spr rows W n g k [] [(k, none)] (fun _ => 0) where
  hk := by simp [aget]
  lt := fun i o h => by
    by_cases e : k = i
    · rw [← e]; exact hk
    · rw [aget_neg (p := (k, none)) e] at h; cases h
  nn := fun i h => by
    by_cases e : k = i
    · exact e.symm
    · rw [aget_neg (p := (k, none)) e] at h; cases h
  gv := fun i q h => by
    by_cases e : k = i
    · rw [aget_pos (p := (k, none)) e] at h; cases h
    · rw [aget_neg (p := (k, none)) e] at h; cases h
  pa := fun p i h => by cases h
  rk := fun p i q h => by cases h
  fm := fun i o h => by
    by_cases e : k = i
    · rw [← e]
    · rw [aget_neg (p := (k, none)) e] at h; cases h
theorem Spr.addPart (S : Spr rows W n g k parts holders r) {i : Nat} {o : Option (Part τ)} {p : Part τ} (hi : aget holders i = some o) (hp : aget parts p = none) (hl : p ∈ letsL rows (W i)) : ∃ r', Spr rows W n g k (aput parts p i) holders r' := by
  refine ⟨fun x => if x = p then (match o with | none => 0 | some q => r q + 1) else r x, S.hk, S.lt, S.nn, fun j q h => ?_, fun x j h => ?_, fun x j q h1 h2 => ?_, S.fm⟩
  · obtain ⟨h1, h2, h3⟩ := S.gv j q h
    refine ⟨h1, ?_, h3⟩
    rw [aget_put]
    split
    · rfl
    · exact h2
  · rw [aget_put] at h
    split at h
    · rename_i e
      cases h
      subst e
      exact ⟨hl, by rw [hi]; rfl⟩
    · exact S.pa x j h
  · have hq : ¬ q = p := fun z => by
      have := (S.gv j q h2).2.1
      rw [z, hp] at this; cases this
    rw [if_neg hq]
    rw [aget_put] at h1
    split at h1
    · rename_i e
      cases h1
      rw [if_pos e]
      rw [hi] at h2
      cases h2
      exact Nat.lt_succ_self _
    · rename_i e
      rw [if_neg e]
      exact S.rk x j q h1 h2
theorem Spr.addHold (S : Spr rows W n g k parts holders r) {j : Nat} {p : Part τ} (hj : aget holders j = none) (hn : j < n) (hp : (aget parts p).isSome = true) (hg : 0 < dg (g j) p) (hl : p ∈ letsL rows (W j)) : Spr rows W n g k parts (aput holders j (some p)) r := by
  have hjk : k ≠ j := fun z => by rw [← z, S.hk] at hj; cases hj
  refine ⟨?_, fun i o h => ?_, fun i h => ?_, fun i q h => ?_, fun x i h => ?_, fun x i q h1 h2 => ?_, fun i o h => ?_⟩
  · rw [aget_put, if_neg hjk]; exact S.hk
  · rw [aget_put] at h
    split at h
    · rename_i e; rw [e]; exact hn
    · exact S.lt i o h
  · rw [aget_put] at h
    split at h
    · cases h
    · exact S.nn i h
  · rw [aget_put] at h
    split at h
    · rename_i e; cases h; rw [e]; exact ⟨hg, hp, hl⟩
    · exact S.gv i q h
  · obtain ⟨h1, h2⟩ := S.pa x i h
    refine ⟨h1, ?_⟩
    rw [aget_put]
    split
    · rfl
    · exact h2
  · rw [aget_put] at h2
    split at h2
    · rename_i e
      have := (S.pa x i h1).2
      rw [e, hj] at this; cases this
    · exact S.rk x i q h1 h2
  · rw [aget_put] at h
    split at h
    · rename_i e
      rw [e, ← letsL_form hl]
      cases q : aget parts p with
      | none => rw [q] at hp; cases hp
      | some i' =>
        obtain ⟨h1, h2⟩ := S.pa p i' q
        cases q2 : aget holders i' with
        | none => rw [q2] at h2; cases h2
        | some o' => rw [letsL_form h1]; exact S.fm i' o' q2
    · exact S.fm i o h
theorem length_le_of_nodup : ∀ (n : Nat) (l : List Nat), l.Nodup → (∀ x ∈ l, x < n) → l.length ≤ n
  | 0, l, _, h => by
    cases l with
    | nil => exact Nat.le_refl _
    | cons a l => exact absurd (h a (List.mem_cons_self ..)) (Nat.not_lt_zero _)
  | n + 1, l, hn, h => by
    have h1 : (l.filter fun x => decide (x ≠ n)).length ≤ n := length_le_of_nodup n _ (hn.filter _) fun x hx => by
      have := (List.mem_filter.mp hx)
      have h2 := h x this.1
      have h3 : x ≠ n := by simpa using this.2
      omega
    have h2 : l.length ≤ (l.filter fun x => decide (x ≠ n)).length + 1 := by
      have h3 : (l.filter fun x => decide (x = n)).length ≤ 1 := by
        have hnd : (l.filter fun x => decide (x = n)).Nodup := hn.filter _
        have hall : ∀ x ∈ l.filter fun x => decide (x = n), x = n := fun x hx => by simpa using (List.mem_filter.mp hx).2
        match h4 : l.filter fun x => decide (x = n) with
        | [] => simp
        | [a] => simp
        | a :: b :: t =>
          rw [h4] at hnd hall
          have e1 := hall a (by simp)
          have e2 := hall b (by simp)
          rw [e1, e2] at hnd
          simp at hnd
      have h5 : l.length = (l.filter fun x => decide (x ≠ n)).length + (l.filter fun x => decide (x = n)).length := by
        clear h1 h3 h hn
        induction l with
        | nil => rfl
        | cons a l ih =>
          rw [List.filter_cons, List.filter_cons]
          by_cases q : a = n
          · simp [q]; simp at ih; omega
          · simp [q]; simp at ih; omega
      omega
    omega
theorem Spr.len (S : Spr rows W n g k parts holders r) (hn : (keys holders).Nodup) : (keys holders).length ≤ n := length_le_of_nodup n _ hn fun x hx => by
  have := aget_isSome_keys.mpr hx
  cases q : aget holders x with
  | none => rw [q] at this; cases this
  | some o => exact S.lt x o q
theorem keys_snoc {κ β : Type} [DecidableEq κ] {d : List (κ × β)} {x : κ} (y : β) (h : aget d x = none) : keys (aput d x y) = keys d ++ [x] := by
  rw [keys_aput, h]; rfl
end
end PM
namespace PM
section
variable {τ : Type} [DecidableEq τ] {rows : Rows τ} {W : Nat → Want τ} {n k : Nat} {g : Nat → Dict τ} {l : Dict τ} {parts : List (Part τ × Nat)} {holders : List (Nat × Option (Part τ))}
/-- whoever has of a part that was come to was come to; of none is any left -/
def Cl (n : Nat) (g : Nat → Dict τ) (l : Dict τ) (parts : List (Part τ × Nat)) (holders : List (Nat × Option (Part τ))) : Prop :=
  ∀ p, (aget parts p).isSome = true → dg l p ≤ 0 ∧ ∀ j, j < n → 0 < dg (g j) p → (aget holders j).isSome = true
/-- the first so many have been gone through -/
def Gone (rows : Rows τ) (W : Nat → Want τ) (parts : List (Part τ × Nat)) (holders : List (Nat × Option (Part τ))) (at_ : Nat) : Prop :=
  ∀ i w, i < at_ → (keys holders)[i]? = some w → ∀ p ∈ letsL rows (W w), (aget parts p).isSome = true
theorem spr_none (S : ∃ r, Spr rows W n g k parts holders r) (c : Cl n g l parts holders) {at_ : Nat} (d : Gone rows W parts holders at_) (h : (keys holders).length ≤ at_) : SprEnd rows W n g l k parts holders none := by
  refine ⟨S, (fun p h => by cases h), fun _ i hi hs p hp => ?_⟩
  obtain ⟨j, hj⟩ := List.getElem?_of_mem (aget_isSome_keys.mp hs)
  have hjl := (List.getElem?_eq_some_iff.mp hj).1
  exact c p (d j i (by omega) hj p hp)
theorem some_put {κ β : Type} [DecidableEq κ] {d : List (κ × β)} {x y : κ} {v : β} (h : (aget d x).isSome = true) : (aget (aput d y v) x).isSome = true := by
  rw [aget_put]; split
  · rfl
  · exact h
theorem some_put_self {κ β : Type} [DecidableEq κ] {d : List (κ × β)} {y : κ} {v : β} : (aget (aput d y v) y).isSome = true := by
  rw [aget_put, if_pos rfl]; rfl
theorem some_put_inv {κ β : Type} [DecidableEq κ] {d : List (κ × β)} {x y : κ} {v : β} (h : (aget (aput d y v) x).isSome = true) : x = y ∨ (aget d x).isSome = true := by
  rw [aget_put] at h
  split at h
  · exact Or.inl ‹_›
  · exact Or.inr h
theorem letsL_nodup (hr : (rows.map fun r => (r.1, r.2.1)).Nodup) {w : Want τ} (hs : w.sh.Nodup) : (letsL rows w).Nodup := by
  unfold letsL
  split
  · exact List.Sublist.nodup (List.Sublist.map _ (List.filter_sublist ..)) hr
  · clear hr
    generalize w.sh = s at hs
    induction s with
    | nil => exact List.nodup_nil
    | cons a s ih =>
      rw [List.nodup_cons] at hs
      rw [List.map_cons, List.nodup_cons]
      refine ⟨fun hm => ?_, ih hs.2⟩
      obtain ⟨b, hb, e⟩ := List.mem_map.mp hm
      injection e with _ e2
      exact hs.1 (e2 ▸ hb)
end
end PM
namespace PM
section
variable {τ : Type} [DecidableEq τ] {rows : Rows τ} {W : Nat → Want τ} {n k : Nat} {g : Nat → Dict τ} {l : Dict τ} {parts : List (Part τ × Nat)} {holders : List (Nat × Option (Part τ))} {r : Part τ → Nat}
theorem Path.at_ {p : Part τ} {way : Way τ} (h : Path parts holders p way) : ∀ e ∈ way, aget holders e.1 = some e.2.2 := by
  induction h with
  | last e1 e2 => intro e he; rw [List.mem_singleton] at he; subst he; exact e2
  | step e1 e2 _ ih =>
    intro e he
    rcases List.mem_cons.mp he with rfl | he
    · exact e2
    · exact ih e he
theorem Path.nodup (S : Spr rows W n g k parts holders r) {p : Part τ} {way : Way τ} (h : Path parts holders p way) : (way.map (·.1)).Nodup := by
  induction h with
  | last e1 e2 => simp
  | @step p q i way e1 e2 hw ih =>
    rw [List.map_cons, List.nodup_cons]
    refine ⟨fun hm => ?_, ih⟩
    obtain ⟨e, he, hei⟩ := List.mem_map.mp hm
    have h1 := hw.at_ e he
    rw [hei, e2] at h1
    have h2 := hw.rank S e he q (Option.some.inj h1).symm
    exact Nat.lt_irrefl _ h2
theorem Path.len (S : Spr rows W n g k parts holders r) {p : Part τ} {way : Way τ} (h : Path parts holders p way) : way.length ≤ n := by
  have := length_le_of_nodup n (way.map (·.1)) (h.nodup S) fun x hx => by
    obtain ⟨e, he, rfl⟩ := List.mem_map.mp hx
    exact h.lt S e he
  rw [List.length_map] at this; exact this
theorem Path.first {p : Part τ} {way : Way τ} (h : Path parts holders p way) : ∃ e way', way = e :: way' ∧ e.2.1 = p ∧ aget parts p = some e.1 ∧ aget holders e.1 = some e.2.2 ∧ (e.2.2 = none → way' = []) ∧ ∀ q, e.2.2 = some q → Path parts holders q way' := by
  cases h with
  | last e1 e2 => exact ⟨_, _, rfl, rfl, e1, e2, fun _ => rfl, fun q h => by cases h⟩
  | step e1 e2 hw => exact ⟨_, _, rfl, rfl, e1, e2, (fun h => by cases h), fun q h => by cases h; exact hw⟩
theorem len_sub {α : Type} [DecidableEq α] : ∀ (l m : List α), l.Nodup → (∀ x ∈ l, x ∈ m) → l.length ≤ m.length
  | [], _, _, _ => Nat.zero_le _
  | a :: l, m, hn, hs => by
    rw [List.nodup_cons] at hn
    have ha := hs a (List.mem_cons_self ..)
    have h1 := len_sub l (m.erase a) hn.2 fun x hx => by
      have hne : x ≠ a := fun e => hn.1 (e ▸ hx)
      exact (List.mem_erase_of_ne hne).mpr (hs x (List.mem_cons_of_mem _ hx))
    rw [List.length_erase_of_mem ha] at h1
    have h2 : 0 < m.length := List.length_pos_of_mem ha
    rw [List.length_cons]; omega
theorem length_aput_old {κ β : Type} [DecidableEq κ] {d : List (κ × β)} {x : κ} {v : β} (h : (aget d x).isSome = true) : (aput d x v).length = d.length := by
  have := keys_aput d x v
  rw [if_pos h] at this
  have h2 := congrArg List.length this
  unfold keys at h2
  rw [List.length_map, List.length_map] at h2
  exact h2
end
end PM
namespace PM
section
variable {τ : Type} [DecidableEq τ] {rows : Rows τ} {W : Nat → Want τ} {n k : Nat} {g g' : Nat → Dict τ} {l : Dict τ} {lk : Nat → Int} {m : Int}
theorem Inv.congr (I : Inv rows W n g l lk) (h : ∀ i, i < n → g' i = g i) : Inv rows W n g' l lk :=
  ⟨fun i hi => by rw [h i hi]; exact I.gn i hi, fun i hi => by rw [h i hi]; exact I.g0 i hi, I.ln, I.l0, I.k0, fun i hi => by rw [h i hi]; exact I.lets i hi, fun p => by
    rw [← I.tot p, rs_congr fun i hi => by rw [h i hi]], fun i hi => by rw [h i hi]; exact I.sum i hi⟩
theorem Closed.congr {S : Nat → Prop} (C : Closed rows W n g l S) (h : ∀ i, i < n → g' i = g i) : Closed rows W n g' l S := fun i hi hS p hp => by
  obtain ⟨c1, c2⟩ := C i hi hS p hp
  exact ⟨c1, fun j hj hd => c2 j hj (by rw [← h j hj]; exact hd)⟩
theorem stepG_len (m : Int) (g : Nat → Dict τ) (e : Nat × Part τ × Option (Part τ)) (j : Nat) : (stepG m g e j).length ≤ (g j).length + 2 := by
  by_cases h : j = e.1
  · subst h
    unfold stepG
    simp only [if_true]
    have h1 := length_aput (g e.1) e.2.1 (dg (g e.1) e.2.1 + m)
    cases e.2.2 with
    | none => exact Nat.le_trans h1 (by omega)
    | some q =>
      have h2 := length_aput (aput (g e.1) e.2.1 (dg (g e.1) e.2.1 + m)) q (dg (aput (g e.1) e.2.1 (dg (g e.1) e.2.1 + m)) q - m)
      show (aput _ _ _).length ≤ _
      omega
  · rw [stepG_ne h]; omega
theorem applyG_len (m : Int) (j : Nat) : ∀ (way : Way τ) (g : Nat → Dict τ), (applyG m g way j).length ≤ (g j).length + 2 * way.length
  | [], g => by show (g j).length ≤ _; omega
  | e :: way, g => by
    have h1 := applyG_len m j way (stepG m g e)
    have h2 := stepG_len m g e j
    show (applyG m (stepG m g e) way j).length ≤ _
    rw [List.length_cons]; omega
theorem stepG_some {e : Nat × Part τ × Option (Part τ)} {j : Nat} {q : Part τ} (h : (aget (g j) q).isSome = true) : (aget (stepG m g e j) q).isSome = true := by
  by_cases hj : j = e.1
  · subst hj
    unfold stepG
    simp only [if_true]
    cases e.2.2 with
    | none => exact some_put h
    | some u => exact some_put (some_put h)
  · rw [stepG_ne hj]; exact h
theorem applyG_some {j : Nat} {q : Part τ} : ∀ {way : Way τ} {g : Nat → Dict τ}, (aget (g j) q).isSome = true → (aget (applyG m g way j) q).isSome = true
  | [], _, h => h
  | e :: way, g, h => applyG_some (way := way) (stepG_some h)
theorem dg_of_some {κ : Type} [DecidableEq κ] {d : List (κ × Int)} {x : κ} (h : (aget d x).isSome = true) : aget d x = some (dg d x) := by
  cases e : aget d x with
  | none => rw [e] at h; cases h
  | some v => unfold dg; rw [e]; rfl
end
end PM
end
section
set_option Elab.async false
set_option linter.all false
set_option maxRecDepth 100000
set_option maxHeartbeats 0

namespace PK
open PySem PySem.Spec PyProof.Rows L2
/-! ### the text by places -/
def top (i : Nat) : Stmt := PySem.Challenge.pw_partkits_k39_whole_built_or_cases.main.body.getD i (.Pass ⟨0, 0, 0, 0⟩)
abbrev s_counted : Stmt := top 6
abbrev s_hInit : Stmt := inClass (top 7) 0
abbrev s_h_rows : Stmt := inClass (top 7) 5
abbrev s_h_many : Stmt := inClass (top 7) 6
abbrev s_h_rows_lacking : Stmt := inClass (top 7) 9
abbrev s_h_holds : Stmt := inClass (top 7) 10
abbrev s_lets : Stmt := top 9
abbrev s_spread : Stmt := top 10
abbrev s_way_of : Stmt := top 11
abbrev s_lead : Stmt := top 12
abbrev s_parts_left : Stmt := top 13
abbrev s_led : Stmt := top 14
abbrev s_as_gift : Stmt := top 15
abbrev s_shades_of : Stmt := top 16
abbrev s_deal : Stmt := top 17
abbrev s_begun_ways : Stmt := top 19
abbrev s_taken_wants : Stmt := top 20
abbrev s_searched : Stmt := top 21
abbrev s_by_cases : Stmt := top 22
abbrev s_build : Stmt := top 23
abbrev s_is_number : Stmt := top 27
abbrev s_is_word : Stmt := top 28
abbrev s_need : Stmt := top 30
abbrev s_wanted : Stmt := top 31
abbrev s_there : Stmt := top 32
abbrev s_is_rising : Stmt := top 33
abbrev s_is_shaped : Stmt := top 34
abbrev s_is_bar : Stmt := top 35
abbrev s_lets_bar : Stmt := top 36
abbrev s_need_node : Stmt := top 38
abbrev s_is_barred : Stmt := top 39
abbrev s_is_free : Stmt := top 40
abbrev s_has_form : Stmt := top 41
abbrev s_look_at : Stmt := top 42
abbrev s_look_below : Stmt := top 43
abbrev s_lets_cases : Stmt := top 44
abbrev s_choices : Stmt := top 46
abbrev s_wants_of : Stmt := top 47
abbrev s_is_gift : Stmt := top 49
abbrev s_is_right : Stmt := top 50
abbrev s_are_gifts : Stmt := top 51
abbrev s_is_given : Stmt := top 52
abbrev s_given_sum : Stmt := top 53
abbrev s_serves : Stmt := top 54
abbrev s_is_dealing : Stmt := top 55
abbrev s__law_tape : Stmt := top 57
abbrev s__law_pick : Stmt := top 58
abbrev s__law_forms : Stmt := top 59
abbrev s__law_shades : Stmt := top 60
abbrev s__law_count : Stmt := top 61
abbrev s__law_want : Stmt := top 62
abbrev s__law_way : Stmt := top 63
abbrev s__law_sheet : Stmt := top 64
abbrev s__law_rows : Stmt := top 65
abbrev s__law_stock : Stmt := top 66
abbrev s__law_choices : Stmt := top 67
abbrev s__law_wants : Stmt := top 68
abbrev s__law_given_out : Stmt := top 69
abbrev s_law : Stmt := top 70
/-! ### the head: facts by names, the run -/
def d_counted : He.DefD := ⟨("counted", none), "counted", "counted", defArgs s_counted, defBody s_counted, defScope s_counted, [], []⟩
def d_hInit : He.DefD := ⟨("Heap", some "__init__"), "__init__", "Heap.__init__", defArgs s_hInit, defBody s_hInit, defScope s_hInit, [.non], []⟩
def d_h_rows : He.DefD := ⟨("Heap", some "rows"), "rows", "Heap.rows", defArgs s_h_rows, defBody s_h_rows, defScope s_h_rows, [], []⟩
def d_h_many : He.DefD := ⟨("Heap", some "many"), "many", "Heap.many", defArgs s_h_many, defBody s_h_many, defScope s_h_many, [.non], []⟩
def d_h_rows_lacking : He.DefD := ⟨("Heap", some "rows_lacking"), "rows_lacking", "Heap.rows_lacking", defArgs s_h_rows_lacking, defBody s_h_rows_lacking, defScope s_h_rows_lacking, [], []⟩
def d_h_holds : He.DefD := ⟨("Heap", some "holds"), "holds", "Heap.holds", defArgs s_h_holds, defBody s_h_holds, defScope s_h_holds, [], []⟩
def d_lets : He.DefD := ⟨("lets", none), "lets", "lets", defArgs s_lets, defBody s_lets, defScope s_lets, [], []⟩
def d_spread : He.DefD := ⟨("spread", none), "spread", "spread", defArgs s_spread, defBody s_spread, defScope s_spread, [], []⟩
def d_way_of : He.DefD := ⟨("way_of", none), "way_of", "way_of", defArgs s_way_of, defBody s_way_of, defScope s_way_of, [], []⟩
def d_lead : He.DefD := ⟨("lead", none), "lead", "lead", defArgs s_lead, defBody s_lead, defScope s_lead, [], []⟩
def d_parts_left : He.DefD := ⟨("parts_left", none), "parts_left", "parts_left", defArgs s_parts_left, defBody s_parts_left, defScope s_parts_left, [], []⟩
def d_led : He.DefD := ⟨("led", none), "led", "led", defArgs s_led, defBody s_led, defScope s_led, [], []⟩
def d_as_gift : He.DefD := ⟨("as_gift", none), "as_gift", "as_gift", defArgs s_as_gift, defBody s_as_gift, defScope s_as_gift, [], []⟩
def d_shades_of : He.DefD := ⟨("shades_of", none), "shades_of", "shades_of", defArgs s_shades_of, defBody s_shades_of, defScope s_shades_of, [], []⟩
def d_deal : He.DefD := ⟨("deal", none), "deal", "deal", defArgs s_deal, defBody s_deal, defScope s_deal, [], []⟩
def d_begun_ways : He.DefD := ⟨("begun_ways", none), "begun_ways", "begun_ways", defArgs s_begun_ways, defBody s_begun_ways, defScope s_begun_ways, [], []⟩
def d_taken_wants : He.DefD := ⟨("taken_wants", none), "taken_wants", "taken_wants", defArgs s_taken_wants, defBody s_taken_wants, defScope s_taken_wants, [], []⟩
def d_searched : He.DefD := ⟨("searched", none), "searched", "searched", defArgs s_searched, defBody s_searched, defScope s_searched, [], []⟩
def d_by_cases : He.DefD := ⟨("by_cases", none), "by_cases", "by_cases", defArgs s_by_cases, defBody s_by_cases, defScope s_by_cases, [], []⟩
def d_build : He.DefD := ⟨("build", none), "build", "build", defArgs s_build, defBody s_build, defScope s_build, [], []⟩
def d_is_number : He.DefD := ⟨("is_number", none), "is_number", "is_number", defArgs s_is_number, defBody s_is_number, defScope s_is_number, [], []⟩
def d_is_word : He.DefD := ⟨("is_word", none), "is_word", "is_word", defArgs s_is_word, defBody s_is_word, defScope s_is_word, [], []⟩
def d_need : He.DefD := ⟨("need", none), "need", "need", defArgs s_need, defBody s_need, defScope s_need, [], []⟩
def d_wanted : He.DefD := ⟨("wanted", none), "wanted", "wanted", defArgs s_wanted, defBody s_wanted, defScope s_wanted, [], []⟩
def d_there : He.DefD := ⟨("there", none), "there", "there", defArgs s_there, defBody s_there, defScope s_there, [], []⟩
def d_is_rising : He.DefD := ⟨("is_rising", none), "is_rising", "is_rising", defArgs s_is_rising, defBody s_is_rising, defScope s_is_rising, [], []⟩
def d_is_shaped : He.DefD := ⟨("is_shaped", none), "is_shaped", "is_shaped", defArgs s_is_shaped, defBody s_is_shaped, defScope s_is_shaped, [], []⟩
def d_is_bar : He.DefD := ⟨("is_bar", none), "is_bar", "is_bar", defArgs s_is_bar, defBody s_is_bar, defScope s_is_bar, [], []⟩
def d_lets_bar : He.DefD := ⟨("lets_bar", none), "lets_bar", "lets_bar", defArgs s_lets_bar, defBody s_lets_bar, defScope s_lets_bar, [], []⟩
def d_need_node : He.DefD := ⟨("need_node", none), "need_node", "need_node", defArgs s_need_node, defBody s_need_node, defScope s_need_node, [], []⟩
def d_is_barred : He.DefD := ⟨("is_barred", none), "is_barred", "is_barred", defArgs s_is_barred, defBody s_is_barred, defScope s_is_barred, [], []⟩
def d_is_free : He.DefD := ⟨("is_free", none), "is_free", "is_free", defArgs s_is_free, defBody s_is_free, defScope s_is_free, [], []⟩
def d_has_form : He.DefD := ⟨("has_form", none), "has_form", "has_form", defArgs s_has_form, defBody s_has_form, defScope s_has_form, [], []⟩
def d_look_at : He.DefD := ⟨("look_at", none), "look_at", "look_at", defArgs s_look_at, defBody s_look_at, defScope s_look_at, [], []⟩
def d_look_below : He.DefD := ⟨("look_below", none), "look_below", "look_below", defArgs s_look_below, defBody s_look_below, defScope s_look_below, [], []⟩
def d_lets_cases : He.DefD := ⟨("lets_cases", none), "lets_cases", "lets_cases", defArgs s_lets_cases, defBody s_lets_cases, defScope s_lets_cases, [], []⟩
def d_choices : He.DefD := ⟨("choices", none), "choices", "choices", defArgs s_choices, defBody s_choices, defScope s_choices, [], []⟩
def d_wants_of : He.DefD := ⟨("wants_of", none), "wants_of", "wants_of", defArgs s_wants_of, defBody s_wants_of, defScope s_wants_of, [.non], []⟩
def d_is_gift : He.DefD := ⟨("is_gift", none), "is_gift", "is_gift", defArgs s_is_gift, defBody s_is_gift, defScope s_is_gift, [], []⟩
def d_is_right : He.DefD := ⟨("is_right", none), "is_right", "is_right", defArgs s_is_right, defBody s_is_right, defScope s_is_right, [], []⟩
def d_are_gifts : He.DefD := ⟨("are_gifts", none), "are_gifts", "are_gifts", defArgs s_are_gifts, defBody s_are_gifts, defScope s_are_gifts, [], []⟩
def d_is_given : He.DefD := ⟨("is_given", none), "is_given", "is_given", defArgs s_is_given, defBody s_is_given, defScope s_is_given, [], []⟩
def d_given_sum : He.DefD := ⟨("given_sum", none), "given_sum", "given_sum", defArgs s_given_sum, defBody s_given_sum, defScope s_given_sum, [], []⟩
def d_serves : He.DefD := ⟨("serves", none), "serves", "serves", defArgs s_serves, defBody s_serves, defScope s_serves, [], []⟩
def d_is_dealing : He.DefD := ⟨("is_dealing", none), "is_dealing", "is_dealing", defArgs s_is_dealing, defBody s_is_dealing, defScope s_is_dealing, [], []⟩
def d__law_tape : He.DefD := ⟨("_law_tape", none), "_law_tape", "_law_tape", defArgs s__law_tape, defBody s__law_tape, defScope s__law_tape, [], []⟩
def d__law_pick : He.DefD := ⟨("_law_pick", none), "_law_pick", "_law_pick", defArgs s__law_pick, defBody s__law_pick, defScope s__law_pick, [], []⟩
def d__law_forms : He.DefD := ⟨("_law_forms", none), "_law_forms", "_law_forms", defArgs s__law_forms, defBody s__law_forms, defScope s__law_forms, [], []⟩
def d__law_shades : He.DefD := ⟨("_law_shades", none), "_law_shades", "_law_shades", defArgs s__law_shades, defBody s__law_shades, defScope s__law_shades, [], []⟩
def d__law_count : He.DefD := ⟨("_law_count", none), "_law_count", "_law_count", defArgs s__law_count, defBody s__law_count, defScope s__law_count, [], []⟩
def d__law_want : He.DefD := ⟨("_law_want", none), "_law_want", "_law_want", defArgs s__law_want, defBody s__law_want, defScope s__law_want, [], []⟩
def d__law_way : He.DefD := ⟨("_law_way", none), "_law_way", "_law_way", defArgs s__law_way, defBody s__law_way, defScope s__law_way, [], []⟩
def d__law_sheet : He.DefD := ⟨("_law_sheet", none), "_law_sheet", "_law_sheet", defArgs s__law_sheet, defBody s__law_sheet, defScope s__law_sheet, [], []⟩
def d__law_rows : He.DefD := ⟨("_law_rows", none), "_law_rows", "_law_rows", defArgs s__law_rows, defBody s__law_rows, defScope s__law_rows, [], []⟩
def d__law_stock : He.DefD := ⟨("_law_stock", none), "_law_stock", "_law_stock", defArgs s__law_stock, defBody s__law_stock, defScope s__law_stock, [], []⟩
def d__law_choices : He.DefD := ⟨("_law_choices", none), "_law_choices", "_law_choices", defArgs s__law_choices, defBody s__law_choices, defScope s__law_choices, [], []⟩
def d__law_wants : He.DefD := ⟨("_law_wants", none), "_law_wants", "_law_wants", defArgs s__law_wants, defBody s__law_wants, defScope s__law_wants, [], []⟩
def d__law_given_out : He.DefD := ⟨("_law_given_out", none), "_law_given_out", "_law_given_out", defArgs s__law_given_out, defBody s__law_given_out, defScope s__law_given_out, [], []⟩
def d_law : He.DefD := ⟨("law", none), "law", "law", defArgs s_law, defBody s_law, defScope s_law, [], []⟩
def fn : List He.DefD := [d_counted, d_hInit, d_h_rows, d_h_many, d_h_rows_lacking, d_h_holds, d_lets, d_spread, d_way_of, d_lead, d_parts_left, d_led, d_as_gift, d_shades_of, d_deal, d_begun_ways, d_taken_wants, d_searched, d_by_cases, d_build, d_is_number, d_is_word, d_need, d_wanted, d_there, d_is_rising, d_is_shaped, d_is_bar, d_lets_bar, d_need_node, d_is_barred, d_is_free, d_has_form, d_look_at, d_look_below, d_lets_cases, d_choices, d_wants_of, d_is_gift, d_is_right, d_are_gifts, d_is_given, d_given_sum, d_serves, d_is_dealing, d__law_tape, d__law_pick, d__law_forms, d__law_shades, d__law_count, d__law_want, d__law_way, d__law_sheet, d__law_rows, d__law_stock, d__law_choices, d__law_wants, d__law_given_out, d_law]
def fa0 : List He.Fa := [.glo "counted", .glo "lets", .glo "spread", .glo "way_of", .glo "lead", .glo "parts_left", .glo "led", .glo "as_gift", .glo "shades_of", .glo "deal", .glo "begun_ways", .glo "taken_wants", .glo "searched", .glo "by_cases", .glo "build", .glo "is_number", .glo "is_word", .glo "need", .glo "wanted", .glo "there", .glo "is_rising", .glo "is_shaped", .glo "is_bar", .glo "lets_bar", .glo "need_node", .glo "is_barred", .glo "is_free", .glo "has_form", .glo "look_at", .glo "look_below"]
def fa1 : List He.Fa := [.glo "lets_cases", .glo "choices", .glo "wants_of", .glo "is_gift", .glo "is_right", .glo "are_gifts", .glo "is_given", .glo "given_sum", .glo "serves", .glo "is_dealing", .glo "_law_tape", .glo "_law_pick", .glo "_law_forms", .glo "_law_shades", .glo "_law_count", .glo "_law_want", .glo "_law_way", .glo "_law_sheet", .glo "_law_rows", .glo "_law_stock", .glo "_law_choices", .glo "_law_wants", .glo "_law_given_out", .glo "law", .glo "Heap", .free "tuple", .free "sorted", .free "sum", .free "len", .free "range"]
def fa2 : List He.Fa := [.free "min", .free "max", .free "all", .free "isinstance", .free "zip", .free "enumerate", .free "set", .free "int", .free "list", .free "bool", .free "str", .cls "Heap", .mkr "Heap", .meth "Heap" "many", .meth "Heap" "rows", .meth "Heap" "rows_lacking", .meth "Heap" "holds", .noat "Heap" "parts", .str "LETTERS" "abcdefghijklmnopqrstuvwxyz", .int "MOST_LETTERS" 8]
def fa : List He.Fa := fa0 ++ fa1 ++ fa2
def nms0 : List Str := ["_wall", "KitError", "PaperError", "NoPaper", "counted", "Heap", "lets", "spread", "way_of", "lead", "parts_left", "led", "as_gift", "shades_of", "deal", "begun_ways", "taken_wants", "searched", "by_cases", "build", "LETTERS", "MOST_LETTERS", "is_number", "is_word", "need", "wanted", "there", "is_rising", "is_shaped", "is_bar"]
def nms1 : List Str := ["lets_bar", "need_node", "is_barred", "is_free", "has_form", "look_at", "look_below", "lets_cases", "choices", "wants_of", "is_gift", "is_right", "are_gifts", "is_given", "given_sum", "serves", "is_dealing", "_law_tape", "_law_pick", "_law_forms", "_law_shades", "_law_count", "_law_want", "_law_way", "_law_sheet", "_law_rows", "_law_stock", "_law_choices", "_law_wants", "_law_given_out"]
def nms : List Str := nms0 ++ nms1
abbrev R : PySem.W.OpenRow := PySem.W.OpenLaw.row PySem.Challenge.rw_partkits_k39_whole_built_or_cases
abbrev hk : PySem.W.Hook := He.hookD 4 fa fn
def ob (s : PySem.W.SharedT) : He.AlD := He.obsDG 4 fa fn (HandSHeadRun.getT s)
theorem ob_eq (s : PySem.W.SharedT) : ob s = hk.obs s.abs := He.obsDG_eq (HandSHeadRun.getT_eq s)
theorem run (w : World) : HandSHeadRun.RunEq R (PySem.W.view R.prog [70]) hk ob 3000 nms w := by
  intro os
  kernel_rfl
end PK
end
section
set_option Elab.async false
set_option linter.all false
set_option maxRecDepth 100000
set_option maxHeartbeats 2000000
namespace PK
open PySem PySem.Spec PyProof.Rows L2
/- counted: 0 rows, 1 found, 2 form, 3 shade, 4 many -/
abbrev N_counted : List Str := ["rows", "found", "form", "shade", "many"]
theorem sc_counted : FnScope N_counted ["rows"] (defScope s_counted) := ⟨rfl, rfl, rfl, by decide +kernel, rfl, by decide +kernel, by decide +kernel⟩
/- hInit: 0 self, 1 rows, 2 counts, 3 form, 4 shade -/
abbrev N_hInit : List Str := ["self", "rows", "counts", "form", "shade"]
theorem sc_hInit : FnScope N_hInit ["self", "rows"] (defScope s_hInit) := ⟨rfl, rfl, rfl, by decide +kernel, rfl, by decide +kernel, by decide +kernel⟩
/- h_rows: 0 self -/
abbrev N_h_rows : List Str := ["self"]
theorem sc_h_rows : FnScope N_h_rows ["self"] (defScope s_h_rows) := ⟨rfl, rfl, rfl, by decide +kernel, rfl, by decide +kernel, by decide +kernel⟩
/- h_many: 0 self, 1 form, 2 shade, 3 row -/
abbrev N_h_many : List Str := ["self", "form", "shade", "row"]
theorem sc_h_many : FnScope N_h_many ["self", "form", "shade"] (defScope s_h_many) := ⟨rfl, rfl, rfl, by decide +kernel, rfl, by decide +kernel, by decide +kernel⟩
/- h_rows_lacking: 0 self, 1 other, 2 found, 3 form, 4 shade, 5 many, 6 more -/
abbrev N_h_rows_lacking : List Str := ["self", "other", "found", "form", "shade", "many", "more"]
theorem sc_h_rows_lacking : FnScope N_h_rows_lacking ["self", "other"] (defScope s_h_rows_lacking) := ⟨rfl, rfl, rfl, by decide +kernel, rfl, by decide +kernel, by decide +kernel⟩
/- h_holds: 0 self, 1 other -/
abbrev N_h_holds : List Str := ["self", "other"]
theorem sc_h_holds : FnScope N_h_holds ["self", "other"] (defScope s_h_holds) := ⟨rfl, rfl, rfl, by decide +kernel, rfl, by decide +kernel, by decide +kernel⟩
/- lets: 0 heap, 1 want, 2 form, 3 shade, 4 many -/
abbrev N_lets : List Str := ["heap", "want", "form", "shade", "many"]
theorem sc_lets : FnScope N_lets ["heap", "want"] (defScope s_lets) := ⟨rfl, rfl, rfl, by decide +kernel, rfl, by decide +kernel, by decide +kernel⟩
/- spread: 0 heap, 1 wants, 2 gifts, 3 left, 4 k, 5 parts, 6 holders, 7 front, 8 at, 9 part, 10 other -/
abbrev N_spread : List Str := ["heap", "wants", "gifts", "left", "k", "parts", "holders", "front", "at", "part", "other"]
theorem sc_spread : FnScope N_spread ["heap", "wants", "gifts", "left", "k"] (defScope s_spread) := ⟨rfl, rfl, rfl, by decide +kernel, rfl, by decide +kernel, by decide +kernel⟩
/- way_of: 0 parts, 1 holders, 2 part, 3 found, 4 one -/
abbrev N_way_of : List Str := ["parts", "holders", "part", "found", "one"]
theorem sc_way_of : FnScope N_way_of ["parts", "holders", "part"] (defScope s_way_of) := ⟨rfl, rfl, rfl, by decide +kernel, rfl, by decide +kernel, by decide +kernel⟩
/- lead: 0 heap, 1 wants, 2 gifts, 3 left, 4 k, 5 most, 6 parts, 7 holders, 8 part, 9 way, 10 many, 11 one, 12 got, 13 given_up -/
abbrev N_lead : List Str := ["heap", "wants", "gifts", "left", "k", "most", "parts", "holders", "part", "way", "many", "one", "got", "given_up"]
theorem sc_lead : FnScope N_lead ["heap", "wants", "gifts", "left", "k", "most"] (defScope s_lead) := ⟨rfl, rfl, rfl, by decide +kernel, rfl, by decide +kernel, by decide +kernel⟩
/- parts_left: 0 heap, 1 found, 2 form, 3 shade, 4 many -/
abbrev N_parts_left : List Str := ["heap", "found", "form", "shade", "many"]
theorem sc_parts_left : FnScope N_parts_left ["heap"] (defScope s_parts_left) := ⟨rfl, rfl, rfl, by decide +kernel, rfl, by decide +kernel, by decide +kernel⟩
/- led: 0 heap, 1 wants, 2 gifts, 3 left, 4 lacks, 5 k, 6 many, 7 holders, 8 reached, 9 want -/
abbrev N_led : List Str := ["heap", "wants", "gifts", "left", "lacks", "k", "many", "holders", "reached", "want"]
theorem sc_led : FnScope N_led ["heap", "wants"] (defScope s_led) := ⟨rfl, rfl, rfl, by decide +kernel, rfl, by decide +kernel, by decide +kernel⟩
/- as_gift: 0 some, 1 part -/
abbrev N_as_gift : List Str := ["some", "part"]
theorem sc_as_gift : FnScope N_as_gift ["some"] (defScope s_as_gift) := ⟨rfl, rfl, rfl, by decide +kernel, rfl, by decide +kernel, by decide +kernel⟩
/- shades_of: 0 wants, 1 some, 2 found, 3 k -/
abbrev N_shades_of : List Str := ["wants", "some", "found", "k"]
theorem sc_shades_of : FnScope N_shades_of ["wants", "some"] (defScope s_shades_of) := ⟨rfl, rfl, rfl, by decide +kernel, rfl, by decide +kernel, by decide +kernel⟩
/- deal: 0 heap, 1 wants, 2 gifts, 3 left, 4 lacks, 5 reached, 6 form, 7 some, 8 k -/
abbrev N_deal : List Str := ["heap", "wants", "gifts", "left", "lacks", "reached", "form", "some", "k"]
theorem sc_deal : FnScope N_deal ["heap", "wants"] (defScope s_deal) := ⟨rfl, rfl, rfl, by decide +kernel, rfl, by decide +kernel, by decide +kernel⟩
/- begun_ways: 0 sheet, 1 row -/
abbrev N_begun_ways : List Str := ["sheet", "row"]
theorem sc_begun_ways : FnScope N_begun_ways ["sheet"] (defScope s_begun_ways) := ⟨rfl, rfl, rfl, by decide +kernel, rfl, by decide +kernel, by decide +kernel⟩
/- taken_wants: 0 sheet, 1 taken, 2 found, 3 row, 4 way -/
abbrev N_taken_wants : List Str := ["sheet", "taken", "found", "row", "way"]
theorem sc_taken_wants : FnScope N_taken_wants ["sheet", "taken"] (defScope s_taken_wants) := ⟨rfl, rfl, rfl, by decide +kernel, rfl, by decide +kernel, by decide +kernel⟩
/- searched: 0 heap, 1 sheet, 2 taken, 3 word, 4 thing -/
abbrev N_searched : List Str := ["heap", "sheet", "taken", "word", "thing"]
theorem sc_searched : FnScope N_searched ["heap", "sheet", "taken"] (defScope s_searched) := ⟨rfl, rfl, rfl, by decide +kernel, rfl, by decide +kernel, by decide +kernel⟩
/- by_cases: 0 heap, 1 sheet, 2 taken, 3 k, 4 node, 5 way, 6 found, 7 tree -/
abbrev N_by_cases : List Str := ["heap", "sheet", "taken", "k", "node", "way", "found", "tree"]
theorem sc_by_cases : FnScope N_by_cases ["heap", "sheet", "taken", "k"] (defScope s_by_cases) := ⟨rfl, rfl, rfl, by decide +kernel, rfl, by decide +kernel, by decide +kernel⟩
/- build: 0 heap, 1 sheet, 2 found, 3 tree -/
abbrev N_build : List Str := ["heap", "sheet", "found", "tree"]
theorem sc_build : FnScope N_build ["heap", "sheet"] (defScope s_build) := ⟨rfl, rfl, rfl, by decide +kernel, rfl, by decide +kernel, by decide +kernel⟩
/- is_number: 0 thing -/
abbrev N_is_number : List Str := ["thing"]
theorem sc_is_number : FnScope N_is_number ["thing"] (defScope s_is_number) := ⟨rfl, rfl, rfl, by decide +kernel, rfl, by decide +kernel, by decide +kernel⟩
/- is_word: 0 thing, 1 sign -/
abbrev N_is_word : List Str := ["thing", "sign"]
theorem sc_is_word : FnScope N_is_word ["thing"] (defScope s_is_word) := ⟨rfl, rfl, rfl, by decide +kernel, rfl, by decide +kernel, by decide +kernel⟩
/- need: 0 truth, 1 word, 2 at -/
abbrev N_need : List Str := ["truth", "word", "at"]
theorem sc_need : FnScope N_need ["truth", "word", "at"] (defScope s_need) := ⟨rfl, rfl, rfl, by decide +kernel, rfl, by decide +kernel, by decide +kernel⟩
/- wanted: 0 wants, 1 form, 2 shades, 3 some, 4 want, 5 shade -/
abbrev N_wanted : List Str := ["wants", "form", "shades", "some", "want", "shade"]
theorem sc_wanted : FnScope N_wanted ["wants", "form", "shades"] (defScope s_wanted) := ⟨rfl, rfl, rfl, by decide +kernel, rfl, by decide +kernel, by decide +kernel⟩
/- there: 0 heap, 1 form, 2 shades, 3 shade -/
abbrev N_there : List Str := ["heap", "form", "shades", "shade"]
theorem sc_there : FnScope N_there ["heap", "form", "shades"] (defScope s_there) := ⟨rfl, rfl, rfl, by decide +kernel, rfl, by decide +kernel, by decide +kernel⟩
/- is_rising: 0 some, 1 one, 2 other -/
abbrev N_is_rising : List Str := ["some", "one", "other"]
theorem sc_is_rising : FnScope N_is_rising ["some"] (defScope s_is_rising) := ⟨rfl, rfl, rfl, by decide +kernel, rfl, by decide +kernel, by decide +kernel⟩
/- is_shaped: 0 thing -/
abbrev N_is_shaped : List Str := ["thing"]
theorem sc_is_shaped : FnScope N_is_shaped ["thing"] (defScope s_is_shaped) := ⟨rfl, rfl, rfl, by decide +kernel, rfl, by decide +kernel, by decide +kernel⟩
/- is_bar: 0 heap, 1 wants, 2 thing -/
abbrev N_is_bar : List Str := ["heap", "wants", "thing"]
theorem sc_is_bar : FnScope N_is_bar ["heap", "wants", "thing"] (defScope s_is_bar) := ⟨rfl, rfl, rfl, by decide +kernel, rfl, by decide +kernel, by decide +kernel⟩
/- lets_bar: 0 heap, 1 wants, 2 thing, 3 k, 4 shade -/
abbrev N_lets_bar : List Str := ["heap", "wants", "thing", "k", "shade"]
theorem sc_lets_bar : FnScope N_lets_bar ["heap", "wants", "thing"] (defScope s_lets_bar) := ⟨rfl, rfl, rfl, by decide +kernel, rfl, by decide +kernel, by decide +kernel⟩
/- need_node: 0 truth, 1 word, 2 number -/
abbrev N_need_node : List Str := ["truth", "word", "number"]
theorem sc_need_node : FnScope N_need_node ["truth", "word", "number"] (defScope s_need_node) := ⟨rfl, rfl, rfl, by decide +kernel, rfl, by decide +kernel, by decide +kernel⟩
/- is_barred: 0 heap, 1 wants, 2 thing -/
abbrev N_is_barred : List Str := ["heap", "wants", "thing"]
theorem sc_is_barred : FnScope N_is_barred ["heap", "wants", "thing"] (defScope s_is_barred) := ⟨rfl, rfl, rfl, by decide +kernel, rfl, by decide +kernel, by decide +kernel⟩
/- is_free: 0 taken, 1 k -/
abbrev N_is_free : List Str := ["taken", "k"]
theorem sc_is_free : FnScope N_is_free ["taken", "k"] (defScope s_is_free) := ⟨rfl, rfl, rfl, by decide +kernel, rfl, by decide +kernel, by decide +kernel⟩
/- has_form: 0 thing -/
abbrev N_has_form : List Str := ["thing"]
theorem sc_has_form : FnScope N_has_form ["thing"] (defScope s_has_form) := ⟨rfl, rfl, rfl, by decide +kernel, rfl, by decide +kernel, by decide +kernel⟩
/- look_at: 0 heap, 1 sheet, 2 taken, 3 thing, 4 seen, 5 number -/
abbrev N_look_at : List Str := ["heap", "sheet", "taken", "thing", "seen", "number"]
theorem sc_look_at : FnScope N_look_at ["heap", "sheet", "taken", "thing", "seen"] (defScope s_look_at) := ⟨rfl, rfl, rfl, by decide +kernel, rfl, by decide +kernel, by decide +kernel⟩
/- look_below: 0 heap, 1 sheet, 2 taken, 3 thing, 4 seen, 5 number, 6 k, 7 way, 8 node -/
abbrev N_look_below : List Str := ["heap", "sheet", "taken", "thing", "seen", "number", "k", "way", "node"]
theorem sc_look_below : FnScope N_look_below ["heap", "sheet", "taken", "thing", "seen"] (defScope s_look_below) := ⟨rfl, rfl, rfl, by decide +kernel, rfl, by decide +kernel, by decide +kernel⟩
/- lets_cases: 0 heap, 1 sheet, 2 thing, 3 seen -/
abbrev N_lets_cases : List Str := ["heap", "sheet", "thing", "seen"]
theorem sc_lets_cases : FnScope N_lets_cases ["heap", "sheet", "thing"] (defScope s_lets_cases) := ⟨rfl, rfl, rfl, by decide +kernel, rfl, by decide +kernel, by decide +kernel⟩
/- choices: 0 sheet, 1 found, 2 row, 3 longer, 4 choice, 5 k -/
abbrev N_choices : List Str := ["sheet", "found", "row", "longer", "choice", "k"]
theorem sc_choices : FnScope N_choices ["sheet"] (defScope s_choices) := ⟨rfl, rfl, rfl, by decide +kernel, rfl, by decide +kernel, by decide +kernel⟩
/- wants_of: 0 sheet, 1 choice, 2 found, 3 k, 4 row -/
abbrev N_wants_of : List Str := ["sheet", "choice", "found", "k", "row"]
theorem sc_wants_of : FnScope N_wants_of ["sheet", "choice"] (defScope s_wants_of) := ⟨rfl, rfl, rfl, by decide +kernel, rfl, by decide +kernel, by decide +kernel⟩
/- is_gift: 0 many, 1 thing, 2 one, 3 other -/
abbrev N_is_gift : List Str := ["many", "thing", "one", "other"]
theorem sc_is_gift : FnScope N_is_gift ["many", "thing"] (defScope s_is_gift) := ⟨rfl, rfl, rfl, by decide +kernel, rfl, by decide +kernel, by decide +kernel⟩
/- is_right: 0 want, 1 gift, 2 shade, 3 many -/
abbrev N_is_right : List Str := ["want", "gift", "shade", "many"]
theorem sc_is_right : FnScope N_is_right ["want", "gift"] (defScope s_is_right) := ⟨rfl, rfl, rfl, by decide +kernel, rfl, by decide +kernel, by decide +kernel⟩
/- are_gifts: 0 wants, 1 thing, 2 want, 3 one -/
abbrev N_are_gifts : List Str := ["wants", "thing", "want", "one"]
theorem sc_are_gifts : FnScope N_are_gifts ["wants", "thing"] (defScope s_are_gifts) := ⟨rfl, rfl, rfl, by decide +kernel, rfl, by decide +kernel, by decide +kernel⟩
/- is_given: 0 wants, 1 thing, 2 want, 3 one -/
abbrev N_is_given : List Str := ["wants", "thing", "want", "one"]
theorem sc_is_given : FnScope N_is_given ["wants", "thing"] (defScope s_is_given) := ⟨rfl, rfl, rfl, by decide +kernel, rfl, by decide +kernel, by decide +kernel⟩
/- given_sum: 0 wants, 1 given, 2 rows, 3 want, 4 gift, 5 shade, 6 many -/
abbrev N_given_sum : List Str := ["wants", "given", "rows", "want", "gift", "shade", "many"]
theorem sc_given_sum : FnScope N_given_sum ["wants", "given"] (defScope s_given_sum) := ⟨rfl, rfl, rfl, by decide +kernel, rfl, by decide +kernel, by decide +kernel⟩
/- serves: 0 heap, 1 wants, 2 given -/
abbrev N_serves : List Str := ["heap", "wants", "given"]
theorem sc_serves : FnScope N_serves ["heap", "wants", "given"] (defScope s_serves) := ⟨rfl, rfl, rfl, by decide +kernel, rfl, by decide +kernel, by decide +kernel⟩
/- is_dealing: 0 heap, 1 sheet, 2 thing, 3 wants, 4 place -/
abbrev N_is_dealing : List Str := ["heap", "sheet", "thing", "wants", "place"]
theorem sc_is_dealing : FnScope N_is_dealing ["heap", "sheet", "thing"] (defScope s_is_dealing) := ⟨rfl, rfl, rfl, by decide +kernel, rfl, by decide +kernel, by decide +kernel⟩
/- _law_tape: 0 _law_script -/
abbrev N__law_tape : List Str := ["_law_script"]
theorem sc__law_tape : FnScope N__law_tape ["_law_script"] (defScope s__law_tape) := ⟨rfl, rfl, rfl, by decide +kernel, rfl, by decide +kernel, by decide +kernel⟩
/- _law_pick: 0 _law_tape_here, 1 _law_many, 2 _law_found, 3 _law_at, 4 _law_cell, 5 _law_mixed -/
abbrev N__law_pick : List Str := ["_law_tape_here", "_law_many", "_law_found", "_law_at", "_law_cell", "_law_mixed"]
theorem sc__law_pick : FnScope N__law_pick ["_law_tape_here", "_law_many"] (defScope s__law_pick) := ⟨rfl, rfl, rfl, by decide +kernel, rfl, by decide +kernel, by decide +kernel⟩
/- _law_forms:  -/
abbrev N__law_forms : List Str := []
theorem sc__law_forms : FnScope N__law_forms [] (defScope s__law_forms) := ⟨rfl, rfl, rfl, by decide +kernel, rfl, by decide +kernel, by decide +kernel⟩
/- _law_shades:  -/
abbrev N__law_shades : List Str := []
theorem sc__law_shades : FnScope N__law_shades [] (defScope s__law_shades) := ⟨rfl, rfl, rfl, by decide +kernel, rfl, by decide +kernel, by decide +kernel⟩
/- _law_count: 0 _law_tape_here, 1 _law_great -/
abbrev N__law_count : List Str := ["_law_tape_here", "_law_great"]
theorem sc__law_count : FnScope N__law_count ["_law_tape_here", "_law_great"] (defScope s__law_count) := ⟨rfl, rfl, rfl, by decide +kernel, rfl, by decide +kernel, by decide +kernel⟩
/- _law_want: 0 _law_tape_here, 1 _law_great, 2 _law_form, 3 _law_bits, 4 _law_some, 5 _law_shade -/
abbrev N__law_want : List Str := ["_law_tape_here", "_law_great", "_law_form", "_law_bits", "_law_some", "_law_shade"]
theorem sc__law_want : FnScope N__law_want ["_law_tape_here", "_law_great"] (defScope s__law_want) := ⟨rfl, rfl, rfl, by decide +kernel, rfl, by decide +kernel, by decide +kernel⟩
/- _law_way: 0 _law_tape_here, 1 _law_most_wants, 2 _law_great, 3 _law_k -/
abbrev N__law_way : List Str := ["_law_tape_here", "_law_most_wants", "_law_great", "_law_k"]
theorem sc__law_way : FnScope N__law_way ["_law_tape_here", "_law_most_wants", "_law_great"] (defScope s__law_way) := ⟨rfl, rfl, rfl, by decide +kernel, rfl, by decide +kernel, by decide +kernel⟩
/- _law_sheet: 0 _law_tape_here, 1 _law_rows_here, 2 _law_room, 3 _law_great, 4 _law_found, 5 _law_k, 6 _law_ways, 7 _law_way_here -/
abbrev N__law_sheet : List Str := ["_law_tape_here", "_law_rows_here", "_law_room", "_law_great", "_law_found", "_law_k", "_law_ways", "_law_way_here"]
theorem sc__law_sheet : FnScope N__law_sheet ["_law_tape_here", "_law_rows_here", "_law_room", "_law_great"] (defScope s__law_sheet) := ⟨rfl, rfl, rfl, by decide +kernel, rfl, by decide +kernel, by decide +kernel⟩
/- _law_rows: 0 _law_tape_here, 1 _law_great, 2 _law_found, 3 _law_form, 4 _law_shade -/
abbrev N__law_rows : List Str := ["_law_tape_here", "_law_great", "_law_found", "_law_form", "_law_shade"]
theorem sc__law_rows : FnScope N__law_rows ["_law_tape_here", "_law_great"] (defScope s__law_rows) := ⟨rfl, rfl, rfl, by decide +kernel, rfl, by decide +kernel, by decide +kernel⟩
/- _law_stock: 0 _law_rows_here, 1 _law_found, 2 _law_form, 3 _law_shade, 4 _law_many -/
abbrev N__law_stock : List Str := ["_law_rows_here", "_law_found", "_law_form", "_law_shade", "_law_many"]
theorem sc__law_stock : FnScope N__law_stock ["_law_rows_here"] (defScope s__law_stock) := ⟨rfl, rfl, rfl, by decide +kernel, rfl, by decide +kernel, by decide +kernel⟩
/- _law_choices: 0 _law_sheet_here, 1 _law_found, 2 _law_row, 3 _law_more, 4 _law_some, 5 _law_way_here -/
abbrev N__law_choices : List Str := ["_law_sheet_here", "_law_found", "_law_row", "_law_more", "_law_some", "_law_way_here"]
theorem sc__law_choices : FnScope N__law_choices ["_law_sheet_here"] (defScope s__law_choices) := ⟨rfl, rfl, rfl, by decide +kernel, rfl, by decide +kernel, by decide +kernel⟩
/- _law_wants: 0 _law_sheet_here, 1 _law_choice, 2 _law_found, 3 _law_row, 4 _law_way_here -/
abbrev N__law_wants : List Str := ["_law_sheet_here", "_law_choice", "_law_found", "_law_row", "_law_way_here"]
theorem sc__law_wants : FnScope N__law_wants ["_law_sheet_here", "_law_choice"] (defScope s__law_wants) := ⟨rfl, rfl, rfl, by decide +kernel, rfl, by decide +kernel, by decide +kernel⟩
/- _law_given_out: 0 _law_stock_here, 1 _law_wants_here, 2 _law_form, 3 _law_found, 4 _law_own, 5 _law_shades_here, 6 _law_many, 7 _law_k, 8 _law_grown, 9 _law_rest, 10 _law_at, 11 _law_shade -/
abbrev N__law_given_out : List Str := ["_law_stock_here", "_law_wants_here", "_law_form", "_law_found", "_law_own", "_law_shades_here", "_law_many", "_law_k", "_law_grown", "_law_rest", "_law_at", "_law_shade"]
theorem sc__law_given_out : FnScope N__law_given_out ["_law_stock_here", "_law_wants_here"] (defScope s__law_given_out) := ⟨rfl, rfl, rfl, by decide +kernel, rfl, by decide +kernel, by decide +kernel⟩
/- law: 0 _law_script, 1 _law_tape_here, 2 _law_rows_here, 3 _law_heap, 4 _law_stock_here, 5 _law_sheet_here, 6 _law_some, 7 _law_choice, 8 _law_word, 9 _law_thing -/
abbrev N_law : List Str := ["_law_script", "_law_tape_here", "_law_rows_here", "_law_heap", "_law_stock_here", "_law_sheet_here", "_law_some", "_law_choice", "_law_word", "_law_thing"]
theorem sc_law : FnScope N_law ["_law_script"] (defScope s_law) := ⟨rfl, rfl, rfl, by decide +kernel, rfl, by decide +kernel, by decide +kernel⟩
end PK
end
section
set_option Elab.async false
set_option linter.all false
set_option maxRecDepth 100000
set_option maxHeartbeats 2000000
/-! A small layer over the hand layer: what stands in the slots and at the addresses that the code owns, told by data. -/
namespace PK
open PySem PySem.Spec PyProof.Rows L2

/-! ### data -/
mutual
inductive Rp (B : Hp) : V → PyData → Prop
  | non : Rp B .non .none
  | bl (b : Bool) : Rp B (.bl b) (.bool b)
  | int (i : Int) : Rp B (.int i) (.int i)
  | str (x : Str) : Rp B (.str x) (.str x)
  | lst {a : Addr} {xs : List V} {ds : List PyData} : B a = some (.lst xs) → RpL B xs ds → Rp B (.ref a) (.list ds)
  | tup {a : Addr} {xs : List V} {ds : List PyData} : B a = some (.tup xs) → RpL B xs ds → Rp B (.ref a) (.tuple ds)
inductive RpL (B : Hp) : List V → List PyData → Prop
  | nil : RpL B [] []
  | cons {v : V} {vs : List V} {d : PyData} {ds : List PyData} : Rp B v d → RpL B vs ds → RpL B (v :: vs) (d :: ds)
end
section
variable {B B' : Hp}
mutual
theorem Rp.mono (e : Same B B') : ∀ {v : V} {d : PyData}, Rp B v d → Rp B' v d
  | _, _, .non => .non
  | _, _, .bl b => .bl b
  | _, _, .int i => .int i
  | _, _, .str x => .str x
  | _, _, .lst h r => .lst (e _ _ h) (RpL.mono e r)
  | _, _, .tup h r => .tup (e _ _ h) (RpL.mono e r)
theorem RpL.mono (e : Same B B') : ∀ {vs : List V} {ds : List PyData}, RpL B vs ds → RpL B' vs ds
  | _, _, .nil => .nil
  | _, _, .cons h r => .cons (Rp.mono e h) (RpL.mono e r)
end
mutual
theorem Rp.dp {K : PySem.W.Frag} {H : Hp} (e : Same B H) : ∀ {v : V} {d : PyData}, Rp B v d → Dp K H v d
  | _, _, .non => .non
  | _, _, .bl b => .bl b
  | _, _, .int i => .int i
  | _, _, .str x => .str x
  | _, _, .lst h r => .lst (SqL.of (e _ _ h)) (RpL.dp e r)
  | _, _, .tup h r => .tup (SqT.of (e _ _ h)) (RpL.dp e r)
theorem RpL.dp {K : PySem.W.Frag} {H : Hp} (e : Same B H) : ∀ {vs : List V} {ds : List PyData}, RpL B vs ds → DpAll K H vs ds
  | _, _, .nil => .nil
  | _, _, .cons h r => .cons (Rp.dp e h) (RpL.dp e r)
end
theorem RpL.length : ∀ {vs : List V} {ds : List PyData}, RpL B vs ds → vs.length = ds.length
  | _, _, .nil => rfl
  | _, _, .cons _ r => congrArg Nat.succ (RpL.length r)
theorem RpL.get : ∀ {vs : List V} {ds : List PyData} {i : Nat} {d : PyData}, RpL B vs ds → ds[i]? = some d → ∃ v, vs[i]? = some v ∧ Rp B v d
  | _, _, _, _, .nil, h => by simp at h
  | _, _, 0, _, .cons r _, h => by simp at h; subst h; exact ⟨_, rfl, r⟩
  | _, _, i + 1, d, .cons _ t, h => by
    obtain ⟨v, h1, h2⟩ := RpL.get (i := i) (d := d) t (by simpa using h)
    exact ⟨v, by simpa using h1, h2⟩
theorem RpL.get' : ∀ {vs : List V} {ds : List PyData} {i : Nat} {v : V}, RpL B vs ds → vs[i]? = some v → ∃ d, ds[i]? = some d ∧ Rp B v d
  | _, _, _, _, .nil, h => by simp at h
  | _, _, 0, _, .cons r _, h => by simp at h; subst h; exact ⟨_, rfl, r⟩
  | _, _, i + 1, v, .cons _ t, h => by
    obtain ⟨d, h1, h2⟩ := RpL.get' (i := i) (v := v) t (by simpa using h)
    exact ⟨d, by simpa using h1, h2⟩
theorem RpL.append : ∀ {vs ws : List V} {ds es : List PyData}, RpL B vs ds → RpL B ws es → RpL B (vs ++ ws) (ds ++ es)
  | _, _, _, _, .nil, s => s
  | _, _, _, _, .cons r t, s => .cons r (RpL.append t s)
theorem RpL.take : ∀ {vs : List V} {ds : List PyData} (n : Nat), RpL B vs ds → RpL B (vs.take n) (ds.take n)
  | _, _, 0, _ => .nil
  | _, _, _ + 1, .nil => .nil
  | _, _, n + 1, .cons r t => .cons r (RpL.take n t)
theorem RpL.drop : ∀ {vs : List V} {ds : List PyData} (n : Nat), RpL B vs ds → RpL B (vs.drop n) (ds.drop n)
  | _, _, 0, r => r
  | _, _, _ + 1, .nil => .nil
  | _, _, n + 1, .cons _ t => RpL.drop n t
end

/-! ### assertions: of a value; of what stands at an owned address -/
structure MA where
  p : V → Hp → Prop
  mono : ∀ {v : V} {B B' : Hp}, Same B B' → p v B → p v B'
structure MO where
  p : HO → Hp → Prop
  mono : ∀ {o : HO} {B B' : Hp}, Same B B' → p o B → p o B'
def isD (d : PyData) : MA := ⟨fun v B => Rp B v d, fun e h => h.mono e⟩
abbrev isI (i : Int) : MA := isD (.int i)
abbrev isB (b : Bool) : MA := isD (.bool b)
abbrev isS (x : Str) : MA := isD (.str x)
def isV (u : V) : MA := ⟨fun v _ => v = u, fun _ h => h⟩
def anyA : MA := ⟨fun _ _ => True, fun _ _ => trivial⟩
def exA {α : Type} (f : α → MA) : MA := ⟨fun v B => ∃ x, (f x).p v B, fun e ⟨x, h⟩ => ⟨x, (f x).mono e h⟩⟩
def andA (φ : Prop) (A : MA) : MA := ⟨fun v B => φ ∧ A.p v B, fun e ⟨h1, h2⟩ => ⟨h1, A.mono e h2⟩⟩
abbrev All2 (B : Hp) (vs : List V) (As : List MA) : Prop := Paired (fun v (A : MA) => A.p v B) vs As
def listA (As : List MA) : MA := ⟨fun v B => ∃ a xs, v = .ref a ∧ B a = some (.lst xs) ∧ All2 B xs As, fun e ⟨a, xs, h1, h2, h3⟩ => ⟨a, xs, h1, e _ _ h2, Paired.mapP h3 fun _ A h => A.mono e h⟩⟩
theorem All2.mono {B B' : Hp} (e : Same B B') {vs : List V} {As : List MA} (h : All2 B vs As) : All2 B' vs As := Paired.mapP h fun _ A h => A.mono e h
theorem all2_isD {B : Hp} : ∀ {vs : List V} {ds : List PyData}, All2 B vs (ds.map isD) → RpL B vs ds
  | _, [], .nil => .nil
  | _, _ :: _, .cons h t => .cons h (all2_isD t)
theorem isD_all2 {B : Hp} : ∀ {vs : List V} {ds : List PyData}, RpL B vs ds → All2 B vs (ds.map isD)
  | _, _, .nil => .nil
  | _, _, .cons h t => .cons h (isD_all2 t)
/-- exactly this object -/
def oRaw (o : HO) : MO := ⟨fun x _ => x = o, fun _ h => h⟩
/-- a list of data -/
def oL (ds : List PyData) : MO := ⟨fun x B => ∃ xs, x = .lst xs ∧ RpL B xs ds, fun e ⟨xs, h1, h2⟩ => ⟨xs, h1, h2.mono e⟩⟩

structure Cell where
  a : Addr
  mo : MO

/-! ### the state: Z what is fixed through a body; B what may be read by all; hp what the code owns -/
structure Fx where
  B0 : Hp
  H0 : Hp
  own0 : List Addr
/-- no tuple: what is owned may change -/
def noT : HO → Bool
  | .tup _ => false
  | _ => true
structure Sat (Z : Fx) (B H : Hp) (hp : List Cell) : Prop where
  b0 : Same Z.B0 B
  bh : Same B H
  nb : ∀ a, B a ≠ none → Z.B0 a ≠ none ∨ Z.H0 a = none ∨ ∃ xs, B a = some (.tup xs)
  fr : ∀ a o, Z.H0 a = some o → a ∉ Z.own0 → H a = some o
  st : ∀ a, Z.H0 a ≠ none → H a ≠ none
  ow : ∀ q ∈ hp, B q.a = none ∧ (q.a ∈ Z.own0 ∨ Z.H0 q.a = none) ∧ ∃ o, H q.a = some o ∧ q.mo.p o B ∧ noT o = true
  nd : (hp.map (·.a)).Nodup
  on : ∀ a ∈ Z.own0, Z.H0 a ≠ none
theorem some_ne {H : Hp} {a : Addr} {o : HO} (h : H a = some o) : H a ≠ none := by rw [h]; exact fun z => nomatch z
theorem ne_some {H : Hp} {a : Addr} (h : H a ≠ none) : ∃ o, H a = some o := by
  cases e : H a with
  | none => exact absurd e h
  | some o => exact ⟨o, rfl⟩
section
variable {Z : Fx} {B H : Hp} {hp : List Cell} {p : Addr} {o : HO}
theorem Sat.free0 (S : Sat Z B H hp) (h : H p = none) : Z.H0 p = none := by
  cases e : Z.H0 p with
  | none => rfl
  | some o => exact absurd h (S.st p (some_ne e))
theorem Sat.freeB (S : Sat Z B H hp) (h : H p = none) : B p = none := by
  cases e : B p with
  | none => rfl
  | some o => rw [S.bh _ _ e] at h; cases h
theorem same_upd {B : Hp} (h : B p = none) : Same B (upd B p o) := fun a u e => by rw [upd_ne (ne_of_none e h)]; exact e
theorem Sat.alloc (S : Sat Z B H hp) (h : H p = none) (o : HO) : Sat Z (upd B p o) (upd H p o) hp ∧ Same B (upd B p o) := by
  have hB := S.freeB h
  refine ⟨⟨fun a u e => same_upd hB a u (S.b0 a u e), fun a u e => ?_, fun a e => ?_, fun a u e n => ?_, fun a e => ?_, fun q hq => ?_, S.nd, S.on⟩, same_upd hB⟩
  · by_cases z : a = p
    · subst z; rw [upd_same] at e ⊢; exact e
    · rw [upd_ne z] at e ⊢; exact S.bh a u e
  · by_cases z : a = p
    · subst z; exact Or.inr (Or.inl (S.free0 h))
    · rw [upd_ne z] at e ⊢; exact S.nb a e
  · rw [upd_ne (ne_of_none (S.fr a u e n) h)]; exact S.fr a u e n
  · by_cases z : a = p
    · subst z; rw [upd_same]; exact fun q => nomatch q
    · rw [upd_ne z]; exact S.st a e
  · obtain ⟨h1, h2, u, h3, h4, h5⟩ := S.ow q hq
    have ne := ne_of_none h3 h
    exact ⟨by rw [upd_ne ne]; exact h1, h2, u, by rw [upd_ne ne]; exact h3, q.mo.mono (same_upd hB) h4, h5⟩
/-- a tuple that stands may be read by all -/
theorem Sat.addTup (S : Sat Z B H hp) {xs : List V} (h : H p = some (.tup xs)) : ∃ B', Sat Z B' H hp ∧ Same B B' ∧ B' p = some (.tup xs) := by
  cases e : B p with
  | some o =>
    have := S.bh p o e
    rw [h] at this
    cases this
    exact ⟨B, S, Same.refl B, e⟩
  | none =>
    refine ⟨upd B p (.tup xs), ⟨fun a u e2 => same_upd e a u (S.b0 a u e2), fun a u e2 => ?_, fun a e2 => ?_, S.fr, S.st, fun q hq => ?_, S.nd, S.on⟩, same_upd e, upd_same⟩
    · by_cases z : a = p
      · subst z; rw [upd_same] at e2; rw [← e2]; exact h
      · rw [upd_ne z] at e2; exact S.bh a u e2
    · by_cases z : a = p
      · subst z; exact Or.inr (Or.inr ⟨xs, upd_same⟩)
      · rw [upd_ne z] at e2 ⊢; exact S.nb a e2
    · obtain ⟨h1, h2, u, h3, h4, h5⟩ := S.ow q hq
      have ne : q.a ≠ p := fun z => by rw [z, h] at h3; cases h3; cases h5
      exact ⟨by rw [upd_ne ne]; exact h1, h2, u, h3, q.mo.mono (same_upd e) h4, h5⟩
theorem nodup_snoc {α : Type} {l : List α} {a : α} (h : l.Nodup) (n : a ∉ l) : (l ++ [a]).Nodup := by
  rw [List.nodup_append]
  exact ⟨h, by simp, fun x hx y hy e => by rw [List.mem_singleton] at hy; subst hy; subst e; exact n hx⟩
theorem Sat.allocOwn (S : Sat Z B H hp) (h : H p = none) {mo : MO} (hm : mo.p o B) (hn : noT o = true := by rfl) : Sat Z B (upd H p o) (hp ++ [⟨p, mo⟩]) ∧ p ∉ Z.own0 := by
  have hB := S.freeB h
  have h0 := S.free0 h
  refine ⟨⟨S.b0, fun a u e => ?_, S.nb, fun a u e n => ?_, fun a e => ?_, fun q hq => ?_, ?_, S.on⟩, fun z => S.on p z h0⟩
  · rw [upd_ne (ne_of_none e hB)]; exact S.bh a u e
  · rw [upd_ne (ne_of_none (S.fr a u e n) h)]; exact S.fr a u e n
  · by_cases z : a = p
    · subst z; rw [upd_same]; exact fun q => nomatch q
    · rw [upd_ne z]; exact S.st a e
  · rcases List.mem_append.mp hq with hq | hq
    · obtain ⟨h1, h2, u, h3, h4⟩ := S.ow q hq
      exact ⟨h1, h2, u, by rw [upd_ne (ne_of_none h3 h)]; exact h3, h4⟩
    · rw [List.mem_singleton] at hq
      subst hq
      exact ⟨hB, Or.inr h0, o, upd_same, hm, hn⟩
  · rw [List.map_append]
    refine nodup_snoc S.nd fun z => ?_
    obtain ⟨q, hq, e⟩ := List.mem_map.mp z
    obtain ⟨_, _, u, h3, _⟩ := S.ow q hq
    rw [e, h] at h3; cases h3
theorem Sat.at (S : Sat Z B H hp) {j : Nat} {c : Cell} (hj : hp[j]? = some c) : ∃ o, H c.a = some o ∧ c.mo.p o B := by
  obtain ⟨_, _, o, h3, h4, _⟩ := S.ow c (List.mem_of_getElem? hj)
  exact ⟨o, h3, h4⟩
theorem map_set_a {hp : List Cell} {j : Nat} {c : Cell} {mo : MO} (hj : hp[j]? = some c) : (hp.set j ⟨c.a, mo⟩).map (·.a) = hp.map (·.a) := by
  apply List.ext_getElem?
  intro i
  rw [List.getElem?_map, List.getElem?_map]
  by_cases e : j = i
  · subst e
    obtain ⟨hlt, he⟩ := List.getElem?_eq_some_iff.mp hj
    rw [List.getElem?_set_self hlt, hj] <;> rfl
  · rw [List.getElem?_set_ne e]
theorem Sat.write (S : Sat Z B H hp) {j : Nat} {c : Cell} (hj : hp[j]? = some c) {mo : MO} (hm : mo.p o B) (hn : noT o = true := by rfl) : Sat Z B (upd H c.a o) (hp.set j ⟨c.a, mo⟩) := by
  obtain ⟨c1, c2, u0, c3, c4⟩ := S.ow c (List.mem_of_getElem? hj)
  have nodup := S.nd
  have hlt : j < hp.length := (List.getElem?_eq_some_iff.mp hj).1
  refine ⟨S.b0, fun a u e => ?_, S.nb, fun a u e n => ?_, fun a e => ?_, fun q hq => ?_, by rw [map_set_a hj]; exact S.nd, S.on⟩
  · rw [upd_ne (ne_of_none e c1)]; exact S.bh a u e
  · have : a ≠ c.a := fun z => by
      subst z
      rcases c2 with c2 | c2
      · exact n c2
      · rw [c2] at e; cases e
    rw [upd_ne this]; exact S.fr a u e n
  · by_cases z : a = c.a
    · subst z; rw [upd_same]; exact fun q => nomatch q
    · rw [upd_ne z]; exact S.st a e
  · obtain ⟨i, hi⟩ := List.getElem?_of_mem hq
    by_cases e : j = i
    · subst e
      rw [List.getElem?_set_self hlt] at hi
      have := Option.some.inj hi
      subst this
      exact ⟨c1, c2, o, upd_same, hm, hn⟩
    · rw [List.getElem?_set_ne e] at hi
      obtain ⟨h1, h2, u, h3, h4⟩ := S.ow q (List.mem_of_getElem? hi)
      have : q.a ≠ c.a := fun z => by
        have e1 : (hp.map (·.a))[j]? = some c.a := by rw [List.getElem?_map, hj] <;> rfl
        have e2 : (hp.map (·.a))[i]? = some c.a := by rw [List.getElem?_map, hi, ← z] <;> rfl
        obtain ⟨l1, g1⟩ := List.getElem?_eq_some_iff.mp e1
        obtain ⟨l2, g2⟩ := List.getElem?_eq_some_iff.mp e2
        exact e ((List.getElem_inj nodup).mp (g1.trans g2.symm))
      exact ⟨h1, h2, u, by rw [upd_ne this]; exact h3, h4⟩
/-- what is owned and was made here is given to all -/
theorem Sat.freeze {hp' : List Cell} {c : Cell} (S : Sat Z B H (hp ++ c :: hp')) (hn : c.a ∉ Z.own0) : ∃ o, H c.a = some o ∧ c.mo.p o B ∧ Sat Z (upd B c.a o) H (hp ++ hp') ∧ Same B (upd B c.a o) := by
  obtain ⟨c1, c2, o, c3, c4, c5⟩ := S.ow c (by simp)
  have h0 : Z.H0 c.a = none := c2.resolve_left hn
  have hnd := S.nd
  rw [List.map_append, List.map_cons, List.nodup_append] at hnd
  obtain ⟨n1, n2, n3⟩ := hnd
  rw [List.nodup_cons] at n2
  refine ⟨o, c3, c4, ⟨fun a u e => same_upd c1 a u (S.b0 a u e), fun a u e => ?_, fun a e => ?_, S.fr, S.st, fun q hq => ?_, ?_, S.on⟩, same_upd c1⟩
  · by_cases z : a = c.a
    · subst z; rw [upd_same] at e; rw [← e]; exact c3
    · rw [upd_ne z] at e; exact S.bh a u e
  · by_cases z : a = c.a
    · subst z; exact Or.inr (Or.inl h0)
    · rw [upd_ne z] at e ⊢; exact S.nb a e
  · have hq' : q ∈ hp ++ c :: hp' := by
      rcases List.mem_append.mp hq with h | h
      · exact List.mem_append_left _ h
      · exact List.mem_append_right _ (List.mem_cons_of_mem _ h)
    obtain ⟨h1, h2, u, h3, h4, h5⟩ := S.ow q hq'
    have : q.a ≠ c.a := fun z => by
      rcases List.mem_append.mp hq with h | h
      · exact n3 q.a (List.mem_map_of_mem (f := (·.a)) h) c.a (List.mem_cons_self ..) z
      · exact n2.1 (z ▸ List.mem_map_of_mem (f := (·.a)) h)
    exact ⟨by rw [upd_ne this]; exact h1, h2, u, h3, q.mo.mono (same_upd c1) h4, h5⟩
  · rw [List.map_append, List.nodup_append]
    exact ⟨n1, n2.2, fun x hx y hy => n3 x hx y (List.mem_cons_of_mem _ hy)⟩
/-- behind a call: the callee's cells are ahead, fr stood still -/
theorem Sat.call {fr hp' : List Cell} {B' H' : Hp} (S : Sat Z B H (hp ++ fr)) (S' : Sat ⟨B, H, hp.map (·.a)⟩ B' H' hp') : Sat Z B' H' (hp' ++ fr) := by
  have nd := S.nd
  rw [List.map_append, List.nodup_append] at nd
  obtain ⟨n1, n2, n3⟩ := nd
  have frs : ∀ q ∈ fr, q.a ∉ hp.map (·.a) := fun q hq z => n3 q.a z q.a (List.mem_map_of_mem (f := (·.a)) hq) rfl
  refine ⟨fun a u e => S'.b0 a u (S.b0 a u e), S'.bh, fun a e => ?_, fun a u e n => ?_, fun a e => S'.st a (S.st a e), fun q hq => ?_, ?_, S.on⟩
  · rcases S'.nb a e with h | h | h
    · rcases S.nb a h with h | h | ⟨xs, h⟩
      · exact Or.inl h
      · exact Or.inr (Or.inl h)
      · exact Or.inr (Or.inr ⟨xs, S'.b0 _ _ h⟩)
    · exact Or.inr (Or.inl (S.free0 h))
    · exact Or.inr (Or.inr h)
  · refine S'.fr a u (S.fr a u e n) fun z => ?_
    obtain ⟨q, hq, eq⟩ := List.mem_map.mp z
    obtain ⟨_, h2, _⟩ := S.ow q (List.mem_append_left _ hq)
    rcases h2 with h2 | h2
    · exact n (eq ▸ h2)
    · rw [eq, e] at h2; cases h2
  · rcases List.mem_append.mp hq with hq | hq
    · obtain ⟨h1, h2, u, h3, h4⟩ := S'.ow q hq
      refine ⟨h1, ?_, u, h3, h4⟩
      rcases h2 with h2 | h2
      · obtain ⟨q2, hq2, eq⟩ := List.mem_map.mp h2
        rw [← eq]; exact (S.ow q2 (List.mem_append_left _ hq2)).2.1
      · exact Or.inr (S.free0 h2)
    · obtain ⟨h1, h2, u, h3, h4, h5⟩ := S.ow q (List.mem_append_right _ hq)
      refine ⟨?_, h2, u, S'.fr q.a u h3 (frs q hq), q.mo.mono S'.b0 h4, h5⟩
      cases e : B' q.a with
      | none => rfl
      | some w =>
        rcases S'.nb q.a (some_ne e) with h | h | ⟨xs, h⟩
        · exact absurd h1 h
        · have h' : H q.a = none := h
          rw [h3] at h'; cases h'
        · have h6 := S'.bh _ _ h
          rw [S'.fr q.a u h3 (frs q hq)] at h6
          cases h6; cases h5
  · rw [List.map_append, List.nodup_append]
    refine ⟨S'.nd, n2, fun x hx y hy e => ?_⟩
    obtain ⟨q, hq, ex⟩ := List.mem_map.mp hx
    obtain ⟨q2, hq2, ey⟩ := List.mem_map.mp hy
    obtain ⟨_, _, u, h3, _⟩ := S.ow q2 (List.mem_append_right _ hq2)
    rcases (S'.ow q hq).2.1 with h | h
    · exact frs q2 hq2 (by rw [ey, ← e, ← ex]; exact h)
    · have h' : H q2.a = none := by rw [ey, ← e, ← ex]; exact h
      rw [h'] at h3; cases h3
/-- the state as a callee sees it -/
theorem Sat.enter {fr : List Cell} (S : Sat Z B H (hp ++ fr)) : Sat ⟨B, H, hp.map (·.a)⟩ B H hp := by
  have nd := S.nd
  rw [List.map_append, List.nodup_append] at nd
  refine ⟨Same.refl B, S.bh, fun a e => Or.inl e, fun a u e _ => e, fun a e => e, fun q hq => ?_, nd.1, fun a ha => ?_⟩
  · obtain ⟨h1, h2, h3⟩ := S.ow q (List.mem_append_left _ hq)
    exact ⟨h1, Or.inl (List.mem_map_of_mem (f := (·.a)) hq), h3⟩
  · obtain ⟨q, hq, e⟩ := List.mem_map.mp ha
    obtain ⟨_, _, u, h3, _⟩ := S.ow q (List.mem_append_left _ hq)
    rw [← e]; exact some_ne h3
theorem Sat.to_nil {hp2 : List Cell} (S : Sat Z B H (hp ++ hp2)) : Sat Z B H hp := by
  have nd := S.nd
  rw [List.map_append, List.nodup_append] at nd
  exact ⟨S.b0, S.bh, S.nb, S.fr, S.st, fun q hq => S.ow q (List.mem_append_left _ hq), nd.1, S.on⟩
end

/-! ### the slots -/
abbrev SL := List (Option MA)
structure SatS (B : Hp) (σ : L2.St) (sl : SL) : Prop where
  len : σ.length = sl.length
  at_ : ∀ (i : Nat) (A : MA), sl[i]? = some (some A) → ∃ v, σ[i]? = some (some v) ∧ A.p v B
section
variable {B B' : Hp} {σ : L2.St} {sl : SL}
theorem SatS.mono (S : SatS B σ sl) (e : Same B B') : SatS B' σ sl := ⟨S.len, fun i A h => let ⟨v, h1, h2⟩ := S.at_ i A h; ⟨v, h1, A.mono e h2⟩⟩
theorem SatS.set (S : SatS B σ sl) {v : V} {A : MA} (h : A.p v B) (j : Nat) : SatS B (σ.set j (some v)) (sl.set j (some A)) := by
  refine ⟨by simp [S.len], fun i C hC => ?_⟩
  by_cases e : j = i
  · subst e
    have hj : j < sl.length := by
      have := (List.getElem?_eq_some_iff.mp hC).1
      simpa using this
    rw [List.getElem?_set_self hj] at hC
    have := Option.some.inj (Option.some.inj hC)
    subst this
    exact ⟨v, by rw [List.getElem?_set_self (by rw [S.len]; exact hj)], h⟩
  · rw [List.getElem?_set_ne e] at hC ⊢
    exact S.at_ i C hC
def setAll (σ : L2.St) : List Nat → List V → L2.St
  | j :: js, v :: vs => setAll (σ.set j (some v)) js vs
  | _, _ => σ
def setSL (sl : SL) : List Nat → List MA → SL
  | j :: js, A :: As => setSL (sl.set j (some A)) js As
  | _, _ => sl
theorem SatS.setAll {js : List Nat} {vs : List V} {As : List MA} (h : All2 B vs As) : ∀ {σ : L2.St} {sl : SL}, SatS B σ sl → SatS B (setAll σ js vs) (setSL sl js As) := by
  induction h generalizing js with
  | nil => intro σ sl S; cases js <;> exact S
  | cons h1 _ ih =>
    intro σ sl S
    cases js with
    | nil => exact S
    | cons j js => exact ih (S.set h1 j)
def wipeS (sl : SL) : List Nat → SL
  | [] => sl
  | v :: vs => (wipeS sl vs).set v none
theorem SatS.none (S : SatS B σ sl) (j : Nat) : SatS B (σ.set j none) (sl.set j none) := by
  refine ⟨by simp [S.len], fun i C hC => ?_⟩
  by_cases e : j = i
  · subst e
    have hj : j < sl.length := by
      have := (List.getElem?_eq_some_iff.mp hC).1
      simpa using this
    rw [List.getElem?_set_self hj] at hC
    cases hC
  · rw [List.getElem?_set_ne e] at hC ⊢
    exact S.at_ i C hC
theorem SatS.wipe (S : SatS B σ sl) : ∀ vs : List Nat, SatS B (wipe σ vs) (wipeS sl vs)
  | [] => S
  | v :: vs => (SatS.wipe S vs).none v
theorem wipe_set {j : Nat} {x : Option V} : ∀ {vs : List Nat} {σ : L2.St}, j ∈ vs → wipe (σ.set j x) vs = wipe σ vs := by
  intro vs
  induction vs with
  | nil => intro σ h; cases h
  | cons v vs ih =>
    intro σ h
    show (wipe (σ.set j x) vs).set v Option.none = (wipe σ vs).set v Option.none
    by_cases hj : j ∈ vs
    · rw [ih hj]
    · have e : v = j := by
        rcases List.mem_cons.mp h with h | h
        · exact h.symm
        · exact absurd h hj
      subst e
      have : ∀ (ws : List Nat) (τ : L2.St), v ∉ ws → wipe (τ.set v x) ws = (wipe τ ws).set v x := by
        intro ws
        induction ws with
        | nil => intro τ _; rfl
        | cons w ws ihw =>
          intro τ hn
          rw [List.mem_cons, not_or] at hn
          show (wipe (τ.set v x) ws).set w Option.none = ((wipe τ ws).set w Option.none).set v x
          rw [ihw τ hn.2, List.set_comm _ _ hn.1]
      rw [this vs σ hj, List.set_set]
theorem wipe_setAll {vs : List Nat} : ∀ {js : List Nat} {us : List V} {σ : L2.St}, (∀ j ∈ js, j ∈ vs) → wipe (setAll σ js us) vs = wipe σ vs
  | [], _, _, _ => rfl
  | _ :: _, [], _, _ => rfl
  | j :: js, u :: us, σ, h => by
    show wipe (setAll (σ.set j (some u)) js us) vs = wipe σ vs
    rw [wipe_setAll fun i hi => h i (List.mem_cons_of_mem _ hi), wipe_set (h j (List.mem_cons_self ..))]
/-- less known -/
def Ent (a b : Option MA) : Prop := match b with
  | Option.none => True
  | some C => ∃ A, a = some A ∧ ∀ v h, A.p v h → C.p v h
theorem Ent.rfl' {a : Option MA} : Ent a a := by
  cases a with
  | none => exact True.intro
  | some A => exact ⟨A, rfl, fun _ _ h => h⟩
theorem Ent.non {a : Option MA} : Ent a Option.none := True.intro
theorem Ent.of {A C : MA} (h : ∀ v b, A.p v b → C.p v b) : Ent (some A) (some C) := ⟨A, rfl, h⟩
def Wk : SL → SL → Prop
  | [], [] => True
  | a :: s, b :: t => Ent a b ∧ Wk s t
  | _, _ => False
theorem Wk.len : ∀ {s t : SL}, Wk s t → s.length = t.length
  | [], [], _ => rfl
  | _ :: _, _ :: _, h => congrArg Nat.succ (Wk.len h.2)
theorem Wk.get : ∀ {s t : SL} {i : Nat} {C : MA}, Wk s t → t[i]? = some (some C) → ∃ A, s[i]? = some (some A) ∧ ∀ v h, A.p v h → C.p v h
  | [], [], _, _, _, h => by simp at h
  | a :: s, b :: t, 0, C, h, e => by
    have e' : b = some C := by simpa using e
    subst e'
    obtain ⟨A, h1, h2⟩ := h.1
    exact ⟨A, by simp [h1], h2⟩
  | a :: s, b :: t, i + 1, C, h, e => by
    obtain ⟨A, h1, h2⟩ := Wk.get (i := i) (C := C) h.2 (by simpa using e)
    exact ⟨A, by simpa using h1, h2⟩
theorem Wk.refl : ∀ s : SL, Wk s s
  | [] => True.intro
  | _ :: s => ⟨Ent.rfl', Wk.refl s⟩
theorem SatS.wk {t : SL} (S : SatS B σ sl) (w : Wk sl t) : SatS B σ t := ⟨S.len.trans w.len, fun i C h => by
  obtain ⟨A, h1, h2⟩ := w.get h
  obtain ⟨v, h3, h4⟩ := S.at_ i A h1
  exact ⟨v, h3, h2 _ _ h4⟩⟩
end
end PK
end
section
set_option Elab.async false
set_option linter.all false
set_option maxRecDepth 100000
set_option maxHeartbeats 2000000
/-! The layer: expressions. -/
namespace PK
open PySem PySem.Spec PyProof.Rows L2

theorem pe_imp {X : Cx} {e : Expr} {t t' : TE} (h : PE X e t) (i : ∀ σ H Q, t' σ H Q → t σ H Q) : PE X e t' := ⟨fun pins s σ H Q I w => h.run pins s σ H Q I (i _ _ _ w)⟩
theorem pt_imp {X : Cx} {e : Expr} {t t' : TT} (h : PT X e t) (i : ∀ σ H Q, t' σ H Q → t σ H Q) : PT X e t' := ⟨fun pins s σ H Q I w => h.run pins s σ H Q I (i _ _ _ w)⟩
theorem pw_imp {X : Cx} {e : Expr} {t t' : TT} (h : PW X e t) (i : ∀ σ H Q, t' σ H Q → t σ H Q) : PW X e t' := ⟨fun wh pins s σ H Q I w => h.run wh pins s σ H Q I (i _ _ _ w)⟩
theorem pa_imp {X : Cx} {e : List Expr} {t t' : TA} (h : PA X e t) (i : ∀ σ H Q, t' σ H Q → t σ H Q) : PA X e t' := ⟨fun pos pins s σ H Q I w => h.run pos pins s σ H Q I (i _ _ _ w)⟩
theorem po_imp {X : Cx} {e : Option Expr} {t t' : TO} (h : PO X e t) (i : ∀ σ H Q, t' σ H Q → t σ H Q) : PO X e t' := ⟨fun pins s σ H Q I w => h.run pins s σ H Q I (i _ _ _ w)⟩
theorem pts_imp {X : Cx} {e : List Expr} {t t' : TT} (h : PTs X e t) (i : ∀ σ H Q, t' σ H Q → t σ H Q) : PTs X e t' := ⟨fun pins s σ H Q I w => h.run pins s σ H Q I (i _ _ _ w)⟩
theorem pg_imp {X : Cx} {e : Expr} {t t' : TG} (h : PG X e t) (i : ∀ v σ H Q, t' v σ H Q → t v σ H Q) : PG X e t' := ⟨fun pins s σ H v u Q I r w => h.run pins s σ H v u Q I r (i _ _ _ _ w)⟩
theorem pe_ex {X : Cx} {e : Expr} {α : Type} {t : α → TE} (h : ∀ x, PE X e (t x)) : PE X e (fun σ H Q => ∃ x, t x σ H Q) := ⟨fun pins s σ H Q I ⟨x, w⟩ => (h x).run pins s σ H Q I w⟩
theorem pts_ex {X : Cx} {e : List Expr} {α : Type} {t : α → TT} (h : ∀ x, PTs X e (t x)) : PTs X e (fun σ H Q => ∃ x, t x σ H Q) := ⟨fun pins s σ H Q I ⟨x, w⟩ => (h x).run pins s σ H Q I w⟩
theorem pg_ex {X : Cx} {e : Expr} {α : Type} {t : α → TG} (h : ∀ x, PG X e (t x)) : PG X e (fun v σ H Q => ∃ x, t x v σ H Q) := ⟨fun pins s σ H v u Q I r ⟨x, w⟩ => (h x).run pins s σ H v u Q I r w⟩
theorem pe_hyp {X : Cx} {e : Expr} {φ : Prop} {t : TE} (h : φ → PE X e t) : PE X e (fun σ H Q => φ ∧ t σ H Q) := ⟨fun pins s σ H Q I ⟨x, w⟩ => (h x).run pins s σ H Q I w⟩
theorem pts_hyp {X : Cx} {e : List Expr} {φ : Prop} {t : TT} (h : φ → PTs X e t) : PTs X e (fun σ H Q => φ ∧ t σ H Q) := ⟨fun pins s σ H Q I ⟨x, w⟩ => (h x).run pins s σ H Q I w⟩
theorem pt_hyp {X : Cx} {e : Expr} {φ : Prop} {t : TT} (h : φ → PT X e t) : PT X e (fun σ H Q => φ ∧ t σ H Q) := ⟨fun pins s σ H Q I ⟨x, w⟩ => (h x).run pins s σ H Q I w⟩
theorem pw_hyp {X : Cx} {e : Expr} {φ : Prop} {t : TT} (h : φ → PW X e t) : PW X e (fun σ H Q => φ ∧ t σ H Q) := ⟨fun wh pins s σ H Q I ⟨x, w⟩ => (h x).run wh pins s σ H Q I w⟩

/-! ### the judgements -/
def tDE (sl : SL) (hp : List Cell) (A : MA) (hp' : List Cell) : TE := fun σ H Q => ∃ Z B, Sat Z B H hp ∧ SatS B σ sl ∧ ∀ v B' H', Same B B' → Sat Z B' H' hp' → A.p v B' → Q v H'
def tDT (sl : SL) (hp : List Cell) (b : Bool) (hp' : List Cell) : TT := fun σ H Q => ∃ Z B, Sat Z B H hp ∧ SatS B σ sl ∧ ∀ B' H', Same B B' → Sat Z B' H' hp' → Q b H'
def tDA (sl : SL) (hp : List Cell) (As : List MA) (hp' : List Cell) : TA := fun σ H Q => ∃ Z B, Sat Z B H hp ∧ SatS B σ sl ∧ ∀ vs B' H', Same B B' → Sat Z B' H' hp' → All2 B' vs As → Q vs H'
def tDO (sl : SL) (hp : List Cell) (o : Option Int) (hp' : List Cell) : TO := fun σ H Q => ∃ Z B, Sat Z B H hp ∧ SatS B σ sl ∧ ∀ B' H', Same B B' → Sat Z B' H' hp' → Q o H'
abbrev DE (X : Cx) (e : Expr) (sl : SL) (hp : List Cell) (A : MA) (hp' : List Cell) : Prop := PE X e (tDE sl hp A hp')
abbrev DT (X : Cx) (e : Expr) (sl : SL) (hp : List Cell) (b : Bool) (hp' : List Cell) : Prop := PT X e (tDT sl hp b hp')
abbrev DW (X : Cx) (e : Expr) (sl : SL) (hp : List Cell) (b : Bool) (hp' : List Cell) : Prop := PW X e (tDT sl hp b hp')
abbrev DA (X : Cx) (es : List Expr) (sl : SL) (hp : List Cell) (As : List MA) (hp' : List Cell) : Prop := PA X es (tDA sl hp As hp')
abbrev DO (X : Cx) (e : Option Expr) (sl : SL) (hp : List Cell) (o : Option Int) (hp' : List Cell) : Prop := PO X e (tDO sl hp o hp')
abbrev DTs (X : Cx) (es : List Expr) (sl : SL) (hp : List Cell) (b : Bool) : Prop := PTs X es (tDT sl hp b hp)

section
variable {X : Cx} {sl : SL} {hp hp1 hp2 hp3 : List Cell} {A A' C D R : MA} {a b c e : Expr} {pos : Pos} {i j : Int} {d : PyData} {ds es : List PyData} {s : Str} {t u : Bool}
theorem Same.trans' {H H1 H2 : Hp} (a : Same H H1) (b : Same H1 H2) : Same H H2 := fun c o h => b c o (a c o h)
/-- less is told of the value -/
theorem de_is (h : DE X e sl hp A hp1) (i : ∀ v B, A.p v B → C.p v B) : DE X e sl hp C hp1 :=
  pe_imp h fun σ H Q ⟨Z, B, S, T, k⟩ => ⟨Z, B, S, T, fun v B' H' m S' q => k v B' H' m S' (i v B' q)⟩
theorem de_eq {d d' : PyData} (h : DE X e sl hp (isD d) hp1) (i : d = d') : DE X e sl hp (isD d') hp1 := by rw [← i]; exact h
theorem dt_eq (h : DT X e sl hp t hp1) (i : t = u) : DT X e sl hp u hp1 := by rw [← i]; exact h
/-- more is known -/
theorem de_wk {sl' : SL} (h : DE X e sl' hp A hp1) (w : Wk sl sl') : DE X e sl hp A hp1 :=
  pe_imp h fun σ H Q ⟨Z, B, S, T, k⟩ => ⟨Z, B, S, T.wk w, k⟩
theorem dt_wk {sl' : SL} (h : DT X e sl' hp t hp1) (w : Wk sl sl') : DT X e sl hp t hp1 :=
  pt_imp h fun σ H Q ⟨Z, B, S, T, k⟩ => ⟨Z, B, S, T.wk w, k⟩
/-- what stands beside -/
theorem tDE_frame {fr : List Cell} {σ : L2.St} {H : Hp} {Q : VK} (h : tDE sl (hp ++ fr) A (hp1 ++ fr) σ H Q) : tDE sl hp A hp1 σ H Q := by
  obtain ⟨Z, B, S, T, k⟩ := h
  exact ⟨_, B, S.enter, T, fun v B' H' m S' q => k v B' H' m (S.call S') q⟩
theorem tDT_frame {fr : List Cell} {σ : L2.St} {H : Hp} {Q : Bool → Hp → Prop} (h : tDT sl (hp ++ fr) t (hp1 ++ fr) σ H Q) : tDT sl hp t hp1 σ H Q := by
  obtain ⟨Z, B, S, T, k⟩ := h
  exact ⟨_, B, S.enter, T, fun B' H' m S' => k B' H' m (S.call S')⟩
theorem de_frame (fr : List Cell) (h : DE X e sl hp A hp1) : DE X e sl (hp ++ fr) A (hp1 ++ fr) := pe_imp h fun _ _ _ => tDE_frame

/-! ### names, constants -/
theorem de_var (i : Nat) {x : Str} (h : sl[i]? = some (some A)) (hN : X.N[i]? = some x := by rfl) (hv : Vis X.env.scope x := by first | exact Or.inl rfl | exact Or.inr (Or.inl rfl) | exact Or.inr (Or.inr rfl)) (hd : (x == ("__debug__" : Str)) = false := by decide)
    (hcd : (x == ("__classdict__" : Str)) = false := by decide) : DE X (.Name x pos) sl hp A hp :=
  pe_imp (pe_var hN hv hd hcd) fun σ H Q ⟨Z, B, S, T, k⟩ => by
    obtain ⟨v, h1, h2⟩ := T.at_ i A h
    exact ⟨v, h1, k v B H (Same.refl B) S h2⟩
theorem de_c {v : V} (h : PE X e (tC v)) (hA : ∀ B, A.p v B) : DE X e sl hp A hp := pe_imp h fun σ H Q ⟨Z, B, S, T, k⟩ => k v B H (Same.refl B) S (hA B)
theorem de_int {j' pos} : DE X (.Constant (.int i) j' pos) sl hp (isI i) hp := de_c pe_int fun _ => .int i
theorem de_bl {j' pos} : DE X (.Constant (.bool t) j' pos) sl hp (isB t) hp := de_c pe_bl fun _ => .bl t
theorem de_non {j' pos} : DE X (.Constant .none j' pos) sl hp (isD .none) hp := de_c pe_non fun _ => .non
theorem de_str {j' pos} : DE X (.Constant (.str s) j' pos) sl hp (isS s) hp := de_c pe_str fun _ => .str s
theorem de_neg (h : DE X a sl hp (isI i) hp1) : DE X (.UnaryOp .USub a pos) sl hp (isI (-i)) hp1 := pe_imp (pe_un un_neg h) fun σ H Q ⟨Z, B, S, T, k⟩ => ⟨Z, B, S, T, fun v B' H' m S' q => by
  cases q
  exact ⟨i, rfl, k _ B' H' m S' (.int _)⟩⟩

/-! ### operators by values -/
def RE (r : R2) (A C R : MA) : Prop := ∀ Z B H hp x y Q, Sat Z B H hp → A.p x B → C.p y B → (∀ v B' H', Same B B' → Sat Z B' H' hp → R.p v B' → Q v H') → r x y H Q
theorem tD_op {r : R2} (hr : RE r A C R) {σ : L2.St} {H : Hp} {Q : VK} (h : tDE sl hp R hp2 σ H Q) : tOp r (tDE sl hp A hp1) (tDE sl hp1 C hp2) σ H Q := by
  obtain ⟨Z, B, S, T, k⟩ := h
  refine ⟨Z, B, S, T, fun x B1 H1 m1 S1 q1 => ⟨Z, B1, S1, T.mono m1, fun y B2 H2 m2 S2 q2 => ?_⟩⟩
  exact hr Z B2 H2 hp2 x y Q S2 (A.mono m2 q1) q2 fun v B' H' m S' q => k v B' H' (m1.trans (m2.trans m)) S' q
theorem de_op {op : Operator} {r : R2} (ho : OpR X (binaryOp op) r) (hr : RE r A C R) (ha : DE X a sl hp A hp1) (hb : DE X b sl hp1 C hp2) : DE X (.BinOp a op b pos) sl hp R hp2 := pe_imp (pe_op ho ha hb) fun _ _ _ => tD_op hr
theorem de_cmp {op : CmpOp} {r : R2} (ho : OpR X (compareOp op) r) (hr : RE r A C R) (ha : DE X a sl hp A hp1) (hb : DE X b sl hp1 C hp2) (hm : behindInMarks op b = false := by first | exact nomark _ | rfl) : DE X (.Compare a [op] [b] pos) sl hp R hp2 := pe_imp (pe_cmpR ho ha hb hm) fun _ _ _ => tD_op hr
theorem dt_cmp {op : CmpOp} {r : R2} (ho : OpR X (compareOp op) r) (hr : RE r A C (isB t)) (ha : DE X a sl hp A hp1) (hb : DE X b sl hp1 C hp2) (hm : behindInMarks op b = false := by first | exact nomark _ | rfl) : DT X (.Compare a [op] [b] pos) sl hp t hp2 :=
  pt_imp (pt_cmpR ho ha hb hm) fun σ H Q ⟨Z, B, S, T, k⟩ => tD_op hr ⟨Z, B, S, T, fun v B' H' m S' q => by
    cases q
    exact ⟨t, rfl, k B' H' m S'⟩⟩
/-- an expression that is a truth, as a test -/
theorem dt_val (h : DE X e sl hp (isB t) hp1) (he : ∀ whole, isTrue e X.env whole = (do let v ← whole; standAt e.pos; holding [v] (truthy v)) := by intro _; rfl) : DT X e sl hp t hp1 :=
  pt_imp (pt_val h he) fun σ H Q ⟨Z, B, S, T, k⟩ => ⟨Z, B, S, T, fun v B' H' m S' q => by
    cases q
    exact ⟨t, rfl, k B' H' m S'⟩⟩
theorem re_I0 {f : Int → Int → Int} : RE (rI0 fun i j => .int (f i j)) (isI i) (isI j) (isI (f i j)) := fun Z B H hp x y Q S hx hy k => by
  cases hx; cases hy
  exact ⟨i, j, rfl, rfl, k _ B H (Same.refl B) S (.int _)⟩
theorem re_I {f : Int → Int → Int} {P : Int → Int → Prop} (h : P i j) : RE (rI P fun i j => .int (f i j)) (isI i) (isI j) (isI (f i j)) := fun Z B H hp x y Q S hx hy k => by
  cases hx; cases hy
  exact ⟨i, j, rfl, rfl, h, k _ B H (Same.refl B) S (.int _)⟩
theorem re_B0 {f : Int → Int → Bool} : RE (rI0 fun i j => .bl (f i j)) (isI i) (isI j) (isB (f i j)) := fun Z B H hp x y Q S hx hy k => by
  cases hx; cases hy
  exact ⟨i, j, rfl, rfl, k _ B H (Same.refl B) S (.bl _)⟩
theorem re_eqS {x y : Str} : RE rEq (isS x) (isS y) (isB (decide (x = y))) := fun Z B H hp v w Q S hx hy k => by
  cases hx; cases hy
  refine ⟨rfl, ?_⟩
  have e : decide (V.str x = V.str y) = decide (x = y) := by
    by_cases h : x = y
    · subst h; simp
    · rw [decide_eq_false h, decide_eq_false fun z => h (V.str.inj z)]
  rw [e]
  exact k _ B H (Same.refl B) S (.bl _)
theorem re_neS {x y : Str} : RE rNe (isS x) (isS y) (isB (!decide (x = y))) := fun Z B H hp v w Q S hx hy k => by
  cases hx; cases hy
  refine ⟨rfl, ?_⟩
  have e : decide (V.str x = V.str y) = decide (x = y) := by
    by_cases h : x = y
    · subst h; simp
    · rw [decide_eq_false h, decide_eq_false fun z => h (V.str.inj z)]
  rw [e]
  exact k _ B H (Same.refl B) S (.bl _)
theorem re_eqI : RE rEq (isI i) (isI j) (isB (decide (i = j))) := fun Z B H hp v w Q S hx hy k => by
  cases hx; cases hy
  refine ⟨rfl, ?_⟩
  have e : decide (V.int i = V.int j) = decide (i = j) := by
    by_cases h : i = j
    · subst h; simp
    · rw [decide_eq_false h, decide_eq_false fun z => h (V.int.inj z)]
  rw [e]
  exact k _ B H (Same.refl B) S (.bl _)
theorem re_neI : RE rNe (isI i) (isI j) (isB (!decide (i = j))) := fun Z B H hp v w Q S hx hy k => by
  cases hx; cases hy
  refine ⟨rfl, ?_⟩
  have e : decide (V.int i = V.int j) = decide (i = j) := by
    by_cases h : i = j
    · subst h; simp
    · rw [decide_eq_false h, decide_eq_false fun z => h (V.int.inj z)]
  rw [e]
  exact k _ B H (Same.refl B) S (.bl _)
theorem re_eqD {K : PySem.W.Frag} {d e : PyData} (hd : SeqAt.shaped d = true) (he : SeqAt.shaped e = true) : RE (rEqD K) (isD d) (isD e) (isB (PyData.eqv d e)) := fun Z B H hp v w Q S hx hy k =>
  ⟨d, e, Rp.dp S.bh hx, Rp.dp S.bh hy, hd, he, k _ B H (Same.refl B) S (.bl _)⟩
theorem re_neD {K : PySem.W.Frag} {d e : PyData} (hd : SeqAt.shaped d = true) (he : SeqAt.shaped e = true) : RE (rNeD K) (isD d) (isD e) (isB (!PyData.eqv d e)) := fun Z B H hp v w Q S hx hy k =>
  ⟨d, e, Rp.dp S.bh hx, Rp.dp S.bh hy, hd, he, k _ B H (Same.refl B) S (.bl _)⟩
/-- is None: of None; of what is no None -/
def notNone : PyData → Bool
  | .none => false
  | _ => true
theorem rp_non {B : Hp} {v : V} {d : PyData} (h : Rp B v d) : decide (v = .non) = !notNone d := by cases h <;> simp [notNone]
theorem re_isN : RE (fun x y H Q => y = .non ∧ Q (.bl (decide (x = .non))) H) (isD d) (isD .none) (isB (!notNone d)) := fun Z B H hp v w Q S hx hy k => by
  cases hy
  refine ⟨rfl, ?_⟩
  rw [rp_non hx]
  exact k _ B H (Same.refl B) S (.bl _)
theorem re_notN : RE (fun x y H Q => y = .non ∧ Q (.bl (!decide (x = .non))) H) (isD d) (isD .none) (isB (notNone d)) := fun Z B H hp v w Q S hx hy k => by
  cases hy
  refine ⟨rfl, ?_⟩
  rw [rp_non hx, Bool.not_not]
  exact k _ B H (Same.refl B) S (.bl _)
/-- in a list | tuple of flat things -/
def flatD : PyData → Bool
  | .none => true
  | .bool _ => true
  | .int _ => true
  | .str _ => true
  | _ => false
def toV : PyData → V
  | .none => .non
  | .bool b => .bl b
  | .int i => .int i
  | .str x => .str x
  | _ => .non
theorem rp_flat {B : Hp} {v : V} {d : PyData} (h : Rp B v d) (f : flatD d = true) : v = toV d ∧ flatV v = true := by cases h <;> first | exact ⟨rfl, rfl⟩ | cases f
theorem rpl_flat {B : Hp} : ∀ {vs : List V} {ds : List PyData}, RpL B vs ds → ds.all flatD = true → vs = ds.map toV ∧ vs.all flatV = true
  | _, _, .nil, _ => ⟨rfl, rfl⟩
  | _, _, .cons h t, f => by
    rw [List.all_cons, Bool.and_eq_true] at f
    obtain ⟨h1, h2⟩ := rp_flat h f.1
    obtain ⟨h3, h4⟩ := rpl_flat t f.2
    exact ⟨by rw [h1, h3]; rfl, by rw [List.all_cons, h2, h4]; rfl⟩
def inD (d : PyData) (ds : List PyData) : Bool := inV (toV d) (ds.map toV)
theorem re_in {K : PySem.W.Frag} {neg : Bool} (hd : flatD d = true) (hs : ds.all flatD = true) : RE (rIn K neg) (isD d) (isD (.tuple ds)) (isB (if neg then !inD d ds else inD d ds)) := fun Z B H hp v w Q S hx hy k => by
  cases hy with
  | tup h r =>
    rename_i a xs
    obtain ⟨e1, f1⟩ := rp_flat hx hd
    obtain ⟨e2, f2⟩ := rpl_flat r hs
    refine ⟨a, xs, rfl, .inr (SqT.of (S.bh _ _ h)), f1, f2, ?_⟩
    rw [e1, e2]
    exact k _ B H (Same.refl B) S (.bl _)
theorem re_inL {K : PySem.W.Frag} {neg : Bool} (hd : flatD d = true) (hs : ds.all flatD = true) : RE (rIn K neg) (isD d) (isD (.list ds)) (isB (if neg then !inD d ds else inD d ds)) := fun Z B H hp v w Q S hx hy k => by
  cases hy with
  | lst h r =>
    rename_i a xs
    obtain ⟨e1, f1⟩ := rp_flat hx hd
    obtain ⟨e2, f2⟩ := rpl_flat r hs
    refine ⟨a, xs, rfl, .inl (SqL.of (S.bh _ _ h)), f1, f2, ?_⟩
    rw [e1, e2]
    exact k _ B H (Same.refl B) S (.bl _)
/-- t + u of tuples, xs + ys of lists -/
theorem re_catT {K : PySem.W.Frag} (hz : ds.length + es.length ≤ sizeLine) : RE (rCatA K) (isD (.tuple ds)) (isD (.tuple es)) (isD (.tuple (ds ++ es))) := fun Z B H hp v w Q S hx hy k => by
  cases hx with
  | tup h1 r1 =>
    cases hy with
    | tup h2 r2 =>
      rename_i a xs b ys
      have l1 := r1.length
      have l2 := r2.length
      refine ⟨a, b, xs, ys, rfl, rfl, SqT.of (S.bh _ _ h1), SqT.of (S.bh _ _ h2), by omega, fun e => ?_, fun _ e => ?_, fun _ _ p hp => ?_⟩
      · subst e
        have : ds = [] := List.eq_nil_of_length_eq_zero (by simpa using l1.symm)
        subst this
        exact k _ B H (Same.refl B) S (.tup h2 r2)
      · subst e
        have : es = [] := List.eq_nil_of_length_eq_zero (by simpa using l2.symm)
        subst this
        rw [List.append_nil] at k
        exact k _ B H (Same.refl B) S (.tup h1 r1)
      · obtain ⟨S', m⟩ := S.alloc hp (.tup (xs ++ ys))
        exact k _ _ _ m S' (.tup upd_same ((r1.mono m).append (r2.mono m)))
theorem re_catL (hz : ds.length + es.length ≤ sizeLine) : RE rCat (isD (.list ds)) (isD (.list es)) (isD (.list (ds ++ es))) := fun Z B H hp v w Q S hx hy k => by
  cases hx with
  | lst h1 r1 =>
    cases hy with
    | lst h2 r2 =>
      rename_i a xs b ys
      have l1 := r1.length
      have l2 := r2.length
      refine ⟨a, b, xs, ys, rfl, rfl, S.bh _ _ h1, S.bh _ _ h2, by omega, fun p hp => ?_⟩
      obtain ⟨S', m⟩ := S.alloc hp (.lst (xs ++ ys))
      exact k _ _ _ m S' (.lst upd_same ((r1.mono m).append (r2.mono m)))
theorem ixN_len {n : Nat} {k : Int} {j : Nat} (h : ixN n k = some j) : ixN n k = some j := h
theorem re_ixT {K : PySem.W.Frag} (h : atI ds i = some d) : RE (rIxT K) (isD (.tuple ds)) (isI i) (isD d) := fun Z B H hp v w Q S hx hy k => by
  cases hy
  cases hx with
  | tup h1 r1 =>
    rename_i a xs
    unfold atI at h
    rw [← r1.length] at h
    cases e : ixN xs.length i with
    | none => rw [e] at h; cases h
    | some j =>
      rw [e] at h
      obtain ⟨v, h2, h3⟩ := r1.get h
      exact ⟨a, xs, i, v, rfl, rfl, SqT.of (S.bh _ _ h1), by unfold atI; rw [e]; exact h2, k _ B H (Same.refl B) S h3⟩
theorem re_ixL {K : PySem.W.Frag} (h : atI ds i = some d) : RE (rIxL K) (isD (.list ds)) (isI i) (isD d) := fun Z B H hp v w Q S hx hy k => by
  cases hy
  cases hx with
  | lst h1 r1 =>
    rename_i a xs
    unfold atI at h
    rw [← r1.length] at h
    cases e : ixN xs.length i with
    | none => rw [e] at h; cases h
    | some j =>
      rw [e] at h
      obtain ⟨v, h2, h3⟩ := r1.get h
      exact ⟨a, xs, i, v, rfl, rfl, SqL.of (S.bh _ _ h1), by unfold atI; rw [e]; exact h2, k _ B H (Same.refl B) S h3⟩
theorem de_ixT (h : atI ds i = some d) (ha : DE X a sl hp (isD (.tuple ds)) hp1) (hb : DE X b sl hp1 (isI i) hp2) (hs : PlainIx b := by exact fun _ _ => rfl) : DE X (.Subscript a b pos) sl hp (isD d) hp2 := pe_imp (pe_ix ix_tup ha hb hs) fun _ _ _ => tD_op (re_ixT h)
theorem de_ixL (h : atI ds i = some d) (ha : DE X a sl hp (isD (.list ds)) hp1) (hb : DE X b sl hp1 (isI i) hp2) (hs : PlainIx b := by exact fun _ _ => rfl) : DE X (.Subscript a b pos) sl hp (isD d) hp2 := pe_imp (pe_ix ix_list ha hb hs) fun _ _ _ => tD_op (re_ixL h)
theorem atI_nat' {α : Type} {xs : List α} {j : Nat} {x : α} (h : xs[j]? = some x) : atI xs (j : Int) = some x := by
  have hl := (List.getElem?_eq_some_iff.mp h).1
  unfold atI ixN
  rw [if_pos (by omega), if_pos (by omega)]
  simpa using h

/-! ### and, or, not, if -/
theorem de_one {op} (h : DE X a sl hp A hp1) : DE X (.BoolOp op [a] pos) sl hp A hp1 := pe_one h
theorem de_and {rest : List Expr} (ha : DE X a sl hp (isB t) hp1) (hb : t = true → DE X (.BoolOp .And (b :: rest) pos) sl hp1 (isB u) hp2) (hf : t = false → hp2 = hp1) : DE X (.BoolOp .And (a :: b :: rest) pos) sl hp (isB (t && u)) hp2 := by
  cases t with
  | true => exact pe_imp (pe_and ha (hb rfl)) fun σ H Q ⟨Z, B, S, T, k⟩ => ⟨Z, B, S, T, fun v B' H' m S' q => by
      cases q
      exact ⟨true, rfl, iteT ⟨Z, B', S', T.mono m, fun v B2 H2 m2 S2 q2 => k v B2 H2 (m.trans m2) S2 q2⟩⟩⟩
  | false =>
    have e := hf rfl
    subst e
    refine ⟨fun pins s σ H Q I ⟨Z, B, S, T, k⟩ => ?_⟩
    refine BoolOp_and (thn (ha.run pins s σ H (fun v H' => v = .bl false ∧ Q (.bl false) H') I ⟨Z, B, S, T, fun v B' H' m S' q => by cases q; exact ⟨rfl, k _ B' H' m S' (.bl _)⟩⟩) fun v s1 ⟨x, H1, I1, r1, q1⟩ => ?_)
    obtain ⟨rfl, q1⟩ := q1
    cases r1
    exact wpAny_truthy_bool ⟨.bl false, H1, I1, rfl, q1⟩
theorem de_or {rest : List Expr} (ha : DE X a sl hp (isB t) hp1) (hb : t = false → DE X (.BoolOp .Or (b :: rest) pos) sl hp1 (isB u) hp2) (hf : t = true → hp2 = hp1) : DE X (.BoolOp .Or (a :: b :: rest) pos) sl hp (isB (t || u)) hp2 := by
  cases t with
  | false => exact pe_imp (pe_or ha (hb rfl)) fun σ H Q ⟨Z, B, S, T, k⟩ => ⟨Z, B, S, T, fun v B' H' m S' q => by
      cases q
      exact ⟨false, rfl, iteF ⟨Z, B', S', T.mono m, fun v B2 H2 m2 S2 q2 => k v B2 H2 (m.trans m2) S2 q2⟩⟩⟩
  | true =>
    have e := hf rfl
    subst e
    refine ⟨fun pins s σ H Q I ⟨Z, B, S, T, k⟩ => ?_⟩
    refine BoolOp_or (thn (ha.run pins s σ H (fun v H' => v = .bl true ∧ Q (.bl true) H') I ⟨Z, B, S, T, fun v B' H' m S' q => by cases q; exact ⟨rfl, k _ B' H' m S' (.bl _)⟩⟩) fun v s1 ⟨x, H1, I1, r1, q1⟩ => ?_)
    obtain ⟨rfl, q1⟩ := q1
    cases r1
    exact wpAny_truthy_bool ⟨.bl true, H1, I1, rfl, q1⟩
theorem de_not (ha : DE X a sl hp (isB t) hp1) : DE X (.UnaryOp .Not a pos) sl hp (isB (!t)) hp1 := pe_imp (pe_not ha) fun σ H Q ⟨Z, B, S, T, k⟩ => ⟨Z, B, S, T, fun v B' H' m S' q => by
  cases q
  exact ⟨t, rfl, k _ B' H' m S' (.bl _)⟩⟩
theorem dt_not (ha : DT X a sl hp t hp1) : DT X (.UnaryOp .Not a pos) sl hp (!t) hp1 := pt_imp (pt_not ha) fun σ H Q ⟨Z, B, S, T, k⟩ => ⟨Z, B, S, T, fun B' H' m S' => k B' H' m S'⟩
theorem dw_and1 (ha : DT X a sl hp t hp1) : DW X (.BoolOp .And [a] pos) sl hp t hp1 := pw_and1 ha
theorem dw_or1 (ha : DT X a sl hp t hp1) : DW X (.BoolOp .Or [a] pos) sl hp t hp1 := pw_or1 ha
theorem dw_and {rest : List Expr} (ha : DT X a sl hp t hp) (hb : t = true → DW X (.BoolOp .And (b :: rest) pos) sl hp u hp) : DW X (.BoolOp .And (a :: b :: rest) pos) sl hp (t && u) hp := by
  refine ⟨fun wh pins s σ H Q I ⟨Z, B, S, T, k⟩ => ?_⟩
  refine isTrue_and (thn (ha.run pins s σ H (fun c H1 => c = t ∧ ∃ B1, Same B B1 ∧ Sat Z B1 H1 hp) I ⟨Z, B, S, T, fun B' H' m S' => ⟨rfl, B', m, S'⟩⟩) fun c s1 ⟨H1, I1, q0, B1, m1, S1⟩ => ?_)
  subst q0
  cases c with
  | true => exact (hb rfl).run wh pins s1 σ H1 Q I1 ⟨Z, B1, S1, T.mono m1, fun B2 H2 m2 S2 => k B2 H2 (m1.trans m2) S2⟩
  | false => exact ⟨H1, I1, k B1 H1 m1 S1⟩
theorem dw_or {rest : List Expr} (ha : DT X a sl hp t hp) (hb : t = false → DW X (.BoolOp .Or (b :: rest) pos) sl hp u hp) : DW X (.BoolOp .Or (a :: b :: rest) pos) sl hp (t || u) hp := by
  refine ⟨fun wh pins s σ H Q I ⟨Z, B, S, T, k⟩ => ?_⟩
  refine isTrue_or (thn (ha.run pins s σ H (fun c H1 => c = t ∧ ∃ B1, Same B B1 ∧ Sat Z B1 H1 hp) I ⟨Z, B, S, T, fun B' H' m S' => ⟨rfl, B', m, S'⟩⟩) fun c s1 ⟨H1, I1, q0, B1, m1, S1⟩ => ?_)
  subst q0
  cases c with
  | false => exact (hb rfl).run wh pins s1 σ H1 Q I1 ⟨Z, B1, S1, T.mono m1, fun B2 H2 m2 S2 => k B2 H2 (m1.trans m2) S2⟩
  | true => exact ⟨H1, I1, k B1 H1 m1 S1⟩
theorem dt_w (h : DW X e sl hp t hp1) : DT X e sl hp t hp1 := h.pt
theorem de_if (hc : DT X c sl hp t hp1) (h1 : t = true → DE X a sl hp1 A hp2) (h2 : t = false → DE X b sl hp1 A hp2) : DE X (.IfExp c a b pos) sl hp A hp2 := by
  refine ⟨fun pins s σ H Q I ⟨Z, B, S, T, k⟩ => ?_⟩
  refine wpAny_IfExp (thn (hc.run pins s σ H (fun c H1 => c = t ∧ ∃ B1, Same B B1 ∧ Sat Z B1 H1 hp1) I ⟨Z, B, S, T, fun B' H' m S' => ⟨rfl, B', m, S'⟩⟩) fun d s1 ⟨H1, I1, q0, B1, m1, S1⟩ => ?_)
  subst q0
  have go : tDE sl hp1 A hp2 σ H1 Q := ⟨Z, B1, S1, T.mono m1, fun v B2 H2 m2 S2 q => k v B2 H2 (m1.trans m2) S2 q⟩
  cases d with
  | true => exact (h1 rfl).run pins s1 σ H1 Q I1 go
  | false => exact (h2 rfl).run pins s1 σ H1 Q I1 go
/-- a <= b < c of numbers -/
theorem de_chain {op op' : CmpOp} {f g : Int → Int → Bool} {k : Int} (ho : OpR X (compareOp op) (rI0 fun i j => .bl (f i j))) (ho' : OpR X (compareOp op') (rI0 fun i j => .bl (g i j))) (ha : DE X a sl hp (isI i) hp) (hb : DE X b sl hp (isI j) hp) (hc : DE X c sl hp (isI k) hp)
    (hm : lastMarks [op, op'] [b, c] = false := by with_unfolding_all rfl) : DE X (.Compare a [op, op'] [b, c] pos) sl hp (isB (f i j && g j k)) hp :=
  pe_imp (pe_chain ho ho' ha hb hc hm) fun σ H Q ⟨Z, B, S, T, q⟩ => ⟨Z, B, S, T, fun x B1 H1 m1 S1 q1 => ⟨Z, B1, S1, T.mono m1, fun y B2 H2 m2 S2 q2 => by
    cases q1; cases q2
    refine ⟨i, j, rfl, rfl, f i j, rfl, ?_⟩
    cases e : f i j with
    | true =>
      refine iteT ⟨Z, B2, S2, T.mono (m1.trans m2), fun z B3 H3 m3 S3 q3 => ?_⟩
      cases q3
      exact ⟨j, k, rfl, rfl, q _ B3 H3 (m1.trans (m2.trans m3)) S3 (by rw [e, Bool.true_and]; exact .bl _)⟩
    | false => exact iteF (q _ B2 H2 (m1.trans m2) S2 (by rw [e, Bool.false_and]; exact .bl _))⟩⟩

/-! ### arguments, displays -/
theorem da_nil : DA X [] sl hp [] hp := pa_imp pa_nil fun σ H Q ⟨Z, B, S, T, k⟩ => k [] B H (Same.refl B) S .nil
theorem da_cons {es' : List Expr} {As : List MA} (ha : DE X a sl hp A hp1) (hr : DA X es' sl hp1 As hp2) (hs : starEach (a :: es') X.env = (false, eval a X.env) :: starEach es' X.env := by rfl) : DA X (a :: es') sl hp (A :: As) hp2 := pa_imp (pa_cons ha hr hs) fun σ H Q ⟨Z, B, S, T, k⟩ =>
  ⟨Z, B, S, T, fun x B1 H1 m1 S1 q1 => ⟨Z, B1, S1, T.mono m1, fun xs B2 H2 m2 S2 q2 => k (x :: xs) B2 H2 (m1.trans m2) S2 (.cons (A.mono m2 q1) q2)⟩⟩
theorem de_tup {es' : List Expr} {k' : Nat} (h : DA X es' sl hp (ds.map isD) hp1) (hz : ds.length ≤ 1000 := by exact Nat.le_of_ble_eq_true rfl) : DE X (.Tuple es' k' pos) sl hp (isD (.tuple ds)) hp1 := pe_imp (pe_tup h) fun σ H Q ⟨Z, B, S, T, k⟩ =>
  ⟨Z, B, S, T, fun xs B1 H1 m1 S1 q1 => by
    have r := all2_isD q1
    refine ⟨by rw [r.length]; exact Nat.le_trans hz (by decide), fun p hp => ?_⟩
    obtain ⟨S2, m2⟩ := S1.alloc hp (.tup xs)
    exact k _ _ _ (m1.trans m2) S2 (.tup upd_same (r.mono m2))⟩
theorem de_lst {es' : List Expr} (h : DA X es' sl hp (ds.map isD) hp1) (hz : ds.length ≤ 1000 := by exact Nat.le_of_ble_eq_true rfl) : DE X (.List es' pos) sl hp (isD (.list ds)) hp1 := pe_imp (pe_lst h) fun σ H Q ⟨Z, B, S, T, k⟩ =>
  ⟨Z, B, S, T, fun xs B1 H1 m1 S1 q1 => by
    have r := all2_isD q1
    refine ⟨by rw [r.length]; exact Nat.le_trans hz (by decide), fun p hp => ?_⟩
    obtain ⟨S2, m2⟩ := S1.alloc hp (.lst xs)
    exact k _ _ _ (m1.trans m2) S2 (.lst upd_same (r.mono m2))⟩

/-! ### slices -/
def cutD (xs : List PyData) (lo hi : Option Int) : List PyData := (xs.drop (HT.sIx xs.length 0 lo)).take (HT.sIx xs.length xs.length hi - HT.sIx xs.length 0 lo)
theorem rpl_cut {B : Hp} {xs : List V} (r : RpL B xs ds) (lo hi : Option Int) : RpL B (cutV xs lo hi) (cutD ds lo hi) := by
  unfold cutV cutD
  rw [r.length]
  exact (r.drop _).take _
theorem do_none : DO X none sl hp none hp := po_imp po_none fun σ H Q ⟨Z, B, S, T, k⟩ => k B H (Same.refl B) S
theorem do_some (h : DE X e sl hp (isI i) hp1) : DO X (some e) sl hp (some i) hp1 := po_imp (po_some h) fun σ H Q ⟨Z, B, S, T, k⟩ => ⟨Z, B, S, T, fun v B' H' m S' q => by
  cases q
  exact ⟨i, rfl, k B' H' m S'⟩⟩
variable {lo hi : Option Expr} {p2 : Pos} {l h' : Option Int}
theorem de_sliceT (ha : DE X a sl hp (isD (.tuple ds)) hp) (hl : DO X lo sl hp l hp) (hh : DO X hi sl hp h' hp) : DE X (.Subscript a (.Slice lo hi none p2) pos) sl hp (isD (.tuple (cutD ds l h'))) hp :=
  pe_imp (pe_slice sl_tupA ha hl hh) fun σ H Q ⟨Z, B, S, T, k⟩ => ⟨Z, B, S, T, fun v B1 H1 m1 S1 q1 => ⟨Z, B1, S1, T.mono m1, fun B2 H2 m2 S2 => ⟨Z, B2, S2, T.mono (m1.trans m2), fun B3 H3 m3 S3 => by
    cases q1 with
    | tup h1 r1 =>
      rename_i p xs
      have hB3 := m3 _ _ (m2 _ _ h1)
      have r3 := (r1.mono m2).mono m3
      refine ⟨p, xs, rfl, SqT.of (S3.bh _ _ hB3), fun hw => ?_, fun _ q hq => ?_⟩
      · refine k _ B3 H3 (m1.trans (m2.trans m3)) S3 ?_
        have e : cutD ds l h' = ds := by
          unfold cutD
          rw [← r1.length, hw.1, hw.2, List.drop_zero, Nat.sub_zero, r1.length, List.take_length]
        rw [e]
        exact .tup hB3 r3
      · obtain ⟨S4, m4⟩ := S3.alloc hq (.tup (cutV xs l h'))
        exact k _ _ _ (m1.trans (m2.trans (m3.trans m4))) S4 (.tup upd_same ((rpl_cut r3 l h').mono m4))⟩⟩⟩
theorem de_sliceL (ha : DE X a sl hp (isD (.list ds)) hp) (hl : DO X lo sl hp l hp) (hh : DO X hi sl hp h' hp) : DE X (.Subscript a (.Slice lo hi none p2) pos) sl hp (isD (.list (cutD ds l h'))) hp :=
  pe_imp (pe_slice sl_list ha hl hh) fun σ H Q ⟨Z, B, S, T, k⟩ => ⟨Z, B, S, T, fun v B1 H1 m1 S1 q1 => ⟨Z, B1, S1, T.mono m1, fun B2 H2 m2 S2 => ⟨Z, B2, S2, T.mono (m1.trans m2), fun B3 H3 m3 S3 => by
    cases q1 with
    | lst h1 r1 =>
      rename_i p xs
      have hB3 := m3 _ _ (m2 _ _ h1)
      have r3 := (r1.mono m2).mono m3
      refine ⟨p, xs, rfl, SqL.of (S3.bh _ _ hB3), fun q hq => ?_⟩
      obtain ⟨S4, m4⟩ := S3.alloc hq (.lst (cutV xs l h'))
      exact k _ _ _ (m1.trans (m2.trans (m3.trans m4))) S4 (.lst upd_same ((rpl_cut r3 l h').mono m4))⟩⟩⟩

/-! ### calls of what is built in -/
def RC (r : List V → Hp → VK → Prop) (As : List MA) (R : MA) : Prop := ∀ Z B H hp vs Q, Sat Z B H hp → All2 B vs As → (∀ v B' H', Same B B' → Sat Z B' H' hp → R.p v B' → Q v H') → r vs H Q
variable {r : List V → Hp → VK → Prop} {As : List MA} {es' : List Expr} {x : Str} {p : Pos}
theorem tD_cb (hr : RC r As R) {σ : L2.St} {H : Hp} {Q : VK} (h : tDE sl hp R hp1 σ H Q) : tCB r (tDA sl hp As hp1) σ H Q := by
  obtain ⟨Z, B, S, T, k⟩ := h
  exact ⟨Z, B, S, T, fun vs B1 H1 m1 S1 q1 => hr Z B1 H1 hp1 vs Q S1 q1 fun v B' H' m S' q => k v B' H' (m1.trans m) S' q⟩
theorem de_callB {id : String} (hc : CallR X (.builtin id) r) (hr : RC r As R) (hm : X.mg x = none) (hv : bootBuiltins x = some (.builtin id)) (ha : DA X (e :: es') sl hp As hp1) (hg : Gl X x := by rfl) (hn : x ≠ "__name__" := by decide) (hdb : (x == ("__debug__" : Str)) = false := by decide)
    (he : starEach (e :: es') X.env = (false, eval e X.env) :: starEach es' X.env := by rfl) (hpl : (backTo pos (starEach es' X.env)).any (·.1) = false := by rfl) : DE X (.Call (.Name x p) (e :: es') [] pos) sl hp R hp1 :=
  pe_imp (pe_callB hc hg hm hv ha hn hdb he hpl) fun _ _ _ => tD_cb hr
theorem de_callTy {T : String} (hc : CallR X (.type T) r) (hr : RC r As R) (hm : X.mg x = none) (hv : bootBuiltins x = some (.type T)) (ha : DA X (e :: es') sl hp As hp1) (hg : Gl X x := by rfl) (hn : x ≠ "__name__" := by decide) (hdb : (x == ("__debug__" : Str)) = false := by decide)
    (he : starEach (e :: es') X.env = (false, eval e X.env) :: starEach es' X.env := by rfl) (hpl : (backTo pos (starEach es' X.env)).any (·.1) = false := by rfl) : DE X (.Call (.Name x p) (e :: es') [] pos) sl hp R hp1 :=
  pe_imp (pe_callTy hc hg hm hv ha hn hdb he hpl) fun _ _ _ => tD_cb hr
theorem all2_one {B : Hp} {vs : List V} (h : All2 B vs [A]) : ∃ v, vs = [v] ∧ A.p v B := by
  cases h with
  | cons h1 t => cases t; exact ⟨_, rfl, h1⟩
theorem all2_two {B : Hp} {vs : List V} (h : All2 B vs [A, C]) : ∃ v w, vs = [v, w] ∧ A.p v B ∧ C.p w B := by
  cases h with
  | cons h1 t =>
    cases t with
    | cons h2 t2 => cases t2; exact ⟨_, _, rfl, h1, h2⟩
theorem rc_lenT {K : PySem.W.Frag} : RC (fun xs H Q => ∃ p ys, xs = [.ref p] ∧ (SqL K H p ys ∨ SqT K H p ys) ∧ Q (.int ys.length) H) [isD (.tuple ds)] (isI (ds.length : Int)) := fun Z B H hp vs Q S ha k => by
  obtain ⟨v, rfl, hv⟩ := all2_one ha
  cases hv with
  | tup h r => exact ⟨_, _, rfl, .inr (SqT.of (S.bh _ _ h)), k _ B H (Same.refl B) S (by rw [r.length]; exact .int _)⟩
theorem rc_lenL {K : PySem.W.Frag} : RC (fun xs H Q => ∃ p ys, xs = [.ref p] ∧ (SqL K H p ys ∨ SqT K H p ys) ∧ Q (.int ys.length) H) [isD (.list ds)] (isI (ds.length : Int)) := fun Z B H hp vs Q S ha k => by
  obtain ⟨v, rfl, hv⟩ := all2_one ha
  cases hv with
  | lst h r => exact ⟨_, _, rfl, .inl (SqL.of (S.bh _ _ h)), k _ B H (Same.refl B) S (by rw [r.length]; exact .int _)⟩
theorem rc_lenS (hz : s.length ≤ sizeLine) : RC (fun xs H Q => ∃ z, xs = [.str z] ∧ z.length ≤ sizeLine ∧ Q (.int z.length) H) [isS s] (isI (s.length : Int)) := fun Z B H hp vs Q S ha k => by
  obtain ⟨v, rfl, hv⟩ := all2_one ha
  cases hv
  exact ⟨s, rfl, hz, k _ B H (Same.refl B) S (.int _)⟩
theorem rpl_map {B : Hp} {α : Type} {f : α → PyData} {g : α → V} (hfg : ∀ (a : α) (v : V), Rp B v (f a) → v = g a) : ∀ {vs : List V} {xs : List α}, RpL B vs (xs.map f) → vs = xs.map g
  | _, [], .nil => rfl
  | _, a :: _, .cons h t => by rw [hfg a _ h, rpl_map hfg t]; rfl
theorem rpl_bools {B : Hp} {vs : List V} {bs : List Bool} (h : RpL B vs (bs.map .bool)) : vs = bs.map V.bl := rpl_map (fun a v h => by cases h; rfl) h
theorem rpl_ints {B : Hp} {vs : List V} {bs : List Int} (h : RpL B vs (bs.map .int)) : vs = bs.map V.int := rpl_map (fun a v h => by cases h; rfl) h
theorem rpl_strs {B : Hp} {vs : List V} {bs : List Str} (h : RpL B vs (bs.map .str)) : vs = bs.map V.str := rpl_map (fun a v h => by cases h; rfl) h
theorem rc_all {K : PySem.W.Frag} {bs : List Bool} : RC (rAll K) [isD (.list (bs.map .bool))] (isB (bs.all id)) := fun Z B H hp vs Q S ha k => by
  obtain ⟨v, rfl, hv⟩ := all2_one ha
  cases hv with
  | lst h r =>
    rw [rpl_bools r] at h
    exact ⟨_, bs, rfl, SqL.of (S.bh _ _ h), k _ B H (Same.refl B) S (.bl _)⟩
theorem rc_sum {K : PySem.W.Frag} {ns : List Int} : RC (rSum K) [isD (.list (ns.map .int))] (isI ns.sum) := fun Z B H hp vs Q S ha k => by
  obtain ⟨v, rfl, hv⟩ := all2_one ha
  cases hv with
  | lst h r =>
    rw [rpl_ints r] at h
    exact ⟨_, ns, rfl, SqL.of (S.bh _ _ h), k _ B H (Same.refl B) S (.int _)⟩
theorem rc_tupleL {K : PySem.W.Frag} : RC (fun xs H Q => ∃ p ys, xs = [.ref p] ∧ ((SqL K H p ys ∧ ∀ l, H l = none → Q (.ref l) (upd H l (.tup ys))) ∨ (SqT K H p ys ∧ Q (.ref p) H))) [isD (.list ds)] (isD (.tuple ds)) := fun Z B H hp vs Q S ha k => by
  obtain ⟨v, rfl, hv⟩ := all2_one ha
  cases hv with
  | lst h r =>
    rename_i a xs
    refine ⟨a, xs, rfl, .inl ⟨SqL.of (S.bh _ _ h), fun q hq => ?_⟩⟩
    obtain ⟨S2, m2⟩ := S.alloc hq (.tup xs)
    exact k _ _ _ m2 S2 (.tup upd_same (r.mono m2))
theorem rc_tupleAs {K : PySem.W.Frag} {bs : List MA} (hb : ∀ B vs, All2 B vs bs → R.p (.non) B ∨ ∀ a, B a = some (.tup vs) → R.p (.ref a) B) (hn : ∀ B vs, All2 B vs bs → ∀ a, B a = some (.tup vs) → R.p (.ref a) B) : RC (fun xs H Q => ∃ p ys, xs = [.ref p] ∧ ((SqL K H p ys ∧ ∀ l, H l = none → Q (.ref l) (upd H l (.tup ys))) ∨ (SqT K H p ys ∧ Q (.ref p) H))) [listA bs] R := fun Z B H hp vs Q S ha k => by
  obtain ⟨v, rfl, a, xs, rfl, h, r⟩ := all2_one ha
  refine ⟨a, xs, rfl, .inl ⟨SqL.of (S.bh _ _ h), fun q hq => ?_⟩⟩
  obtain ⟨S2, m2⟩ := S.alloc hq (.tup xs)
  exact k _ _ _ m2 S2 (hn _ _ (r.mono m2) _ upd_same)
/-- isinstance(x, T) of data -/
def tyD : PyData → String
  | .none => "NoneType"
  | .bool _ => "bool"
  | .int _ => "int"
  | .str _ => "str"
  | .list _ => "list"
  | .tuple _ => "tuple"
  | .dict _ => "dict"
theorem rp_ty {K : PySem.W.Frag} {B H : Hp} {v : V} (m : Same B H) (h : Rp B v d) : TyX K H v (.type (tyD d)) := by
  cases h with
  | non => exact .base .non
  | bl b => exact .base (.bl b)
  | int i => exact .base (.int i)
  | str x => exact .base (.str x)
  | lst h r => exact .base (.lst (m _ _ h))
  | tup h r => exact .base (.tup (m _ _ h))
theorem rc_isi {K : PySem.W.Frag} {T : String} {b : Bool} (h : kitB (tyD d) T = some b) : RC (rIsi K) [isD d, isV (.ty T)] (isB b) := fun Z B H hp vs Q S ha k => by
  obtain ⟨v, w, rfl, hv, hw⟩ := all2_two ha
  cases hw
  exact ⟨v, .ty T, _, _, b, rfl, .ty T, rp_ty S.bh hv, kit_ty h, k _ B H (Same.refl B) S (.bl _)⟩
theorem rc_II {f : Int → Int → Int} : RC (fun xs H Q => ∃ i j, xs = [.int i, .int j] ∧ Q (.int (f i j)) H) [isI i, isI j] (isI (f i j)) := fun Z B H hp vs Q S ha k => by
  obtain ⟨v, w, rfl, hv, hw⟩ := all2_two ha
  cases hv; cases hw
  exact ⟨i, j, rfl, k _ B H (Same.refl B) S (.int _)⟩
end
end PK
end
section
set_option Elab.async false
set_option linter.all false
set_option maxRecDepth 100000
set_option maxHeartbeats 2000000
/-! The layer: iterators, comprehensions, statements, defs. -/
namespace PK
open PySem PySem.Spec PyProof.Rows L2

/-! ### targets -/
def tDG (A : MA) (js : List Nat) (As : List MA) : TG := fun v σ H Q => ∃ B, Same B H ∧ A.p v B ∧ ∀ vs, All2 B vs As → Q (setAll σ js vs) H
section
variable {X : Cx} {pos p1 p2' p3 : Pos} {x y z : Str} {A : MA} {d1 d2 d3 : PyData} {k : Nat}
theorem dg_name (j : Nat) (hN : X.N.Nodup) (hi : X.N[j]? = some x) (hx : Loc X.env.scope x) (hf : X.fn x = true ∨ X.env.scope.names.lookup x = some .local := by first | exact .inl rfl | exact .inr rfl | assumption) : PG X (.Name x pos) (tDG A [j] [A]) :=
  pg_imp (pg_name hN hi hx hf) fun v σ H Q ⟨B, m, q, k⟩ => k [v] (.cons q .nil)
theorem dg_tup2 {j1 j2 : Nat} (hc : X.calm = true) (h1 : ∀ A, PG X (.Name x p1) (tDG A [j1] [A])) (h2 : ∀ A, PG X (.Name y p2') (tDG A [j2] [A])) :
    PG X (.Tuple [.Name x p1, .Name y p2'] k pos) (tDG (isD (.tuple [d1, d2])) [j1, j2] [isD d1, isD d2]) :=
  pg_imp (pg_tup (n := 2) hc (pgs_cons (h1 (isD d1)) (pgs_cons (h2 (isD d2)) pgs_nil))) fun v σ H Q ⟨B, m, q, k⟩ => by
    cases q with
    | tup h r =>
      rename_i a xs
      cases r with
      | cons r1 r =>
        cases r with
        | cons r2 r =>
          cases r
          exact ⟨_, _, rfl, SqT.of (m _ _ h), rfl, _, _, rfl, B, m, r1, fun vs hv => by
            obtain ⟨v1, rfl, q1⟩ := all2_one hv
            exact ⟨_, _, rfl, B, m, r2, fun ws hw => by
              obtain ⟨v2, rfl, q2⟩ := all2_one hw
              exact ⟨rfl, k [v1, v2] (.cons q1 (.cons q2 .nil))⟩⟩⟩
theorem dg_tup3 {j1 j2 j3 : Nat} (hc : X.calm = true) (h1 : ∀ A, PG X (.Name x p1) (tDG A [j1] [A])) (h2 : ∀ A, PG X (.Name y p2') (tDG A [j2] [A])) (h3 : ∀ A, PG X (.Name z p3) (tDG A [j3] [A])) :
    PG X (.Tuple [.Name x p1, .Name y p2', .Name z p3] k pos) (tDG (isD (.tuple [d1, d2, d3])) [j1, j2, j3] [isD d1, isD d2, isD d3]) :=
  pg_imp (pg_tup (n := 3) hc (pgs_cons (h1 (isD d1)) (pgs_cons (h2 (isD d2)) (pgs_cons (h3 (isD d3)) pgs_nil)))) fun v σ H Q ⟨B, m, q, k⟩ => by
    cases q with
    | tup h r =>
      rename_i a xs
      cases r with
      | cons r1 r =>
        cases r with
        | cons r2 r =>
          cases r with
          | cons r3 r =>
            cases r
            exact ⟨_, _, rfl, SqT.of (m _ _ h), rfl, _, _, rfl, B, m, r1, fun vs hv => by
              obtain ⟨v1, rfl, q1⟩ := all2_one hv
              exact ⟨_, _, rfl, B, m, r2, fun ws hw => by
                obtain ⟨v2, rfl, q2⟩ := all2_one hw
                exact ⟨_, _, rfl, B, m, r3, fun us hu => by
                  obtain ⟨v3, rfl, q3⟩ := all2_one hu
                  exact ⟨rfl, k [v1, v2, v3] (.cons q1 (.cons q2 (.cons q3 .nil)))⟩⟩⟩⟩
end

/-! ### iterators -/
/-- these stand so -/
def Hd (F : List (Addr × HO)) (H : Hp) : Prop := ∀ q ∈ F, H q.1 = some q.2
/-- what it gives at turn i: the i-th of xs; the heap as it was, or with one new tuple; or a tuple that stands -/
structure WalkD (J : It) (B : Hp) (F : List (Addr × HO)) {α : Type} (xs : List α) (I : α → MA) : Prop where
  goes : ∀ i H, i < xs.length → Same B H → Hd F H → J.go i H
  stops : ∀ H, Same B H → Hd F H → J.stop xs.length H
  yields : ∀ i x H v H', xs[i]? = some x → Same B H → J.yld i H v H' → (H' = H ∧ (I x).p v B) ∨ (∃ T vs ds, v = .ref T ∧ H T = none ∧ H' = upd H T (.tup vs) ∧ RpL B vs ds ∧ I x = isD (.tuple ds)) ∨ ∃ T vs ds, v = .ref T ∧ H T = some (.tup vs) ∧ H' = H ∧ RpL B vs ds ∧ I x = isD (.tuple ds)
def tDI {α : Type} (sl : SL) (hp : List Cell) (xs : List α) (I : α → MA) (hp' : List Cell) (F : List (Addr × HO)) : TI := fun σ H R => ∃ Z B, Sat Z B H hp ∧ SatS B σ sl ∧ ∀ B' H' J, Same B B' → Sat Z B' H' hp' → WalkD J B' F xs I → R J H'
structure DIF (X : Cx) (tg it : Expr) {α : Type} (sl : SL) (hp : List Cell) (xs : List α) (I : α → MA) (hp' : List Cell) (F : List (Addr × HO)) : Prop where
  ex : ∃ wi, PI X tg it wi ∧ ∀ σ H R, tDI sl hp xs I hp' F σ H R → wi σ H R
abbrev DI (X : Cx) (tg it : Expr) {α : Type} (sl : SL) (hp : List Cell) (xs : List α) (I : α → MA) (hp' : List Cell) : Prop := DIF X tg it sl hp xs I hp' []
/-- the cells see to it -/
def HdC (hp : List Cell) (F : List (Addr × HO)) : Prop := ∀ Z B H fr, Sat Z B H (hp ++ fr) → Hd F H
theorem HdC.nil {hp : List Cell} : HdC hp [] := fun _ _ _ _ _ _ h => by cases h
/-- behind a turn -/
theorem WalkD.step {J : It} {B : Hp} {F : List (Addr × HO)} {α : Type} {xs : List α} {I : α → MA} (w : WalkD J B F xs I) {Z : Fx} {Bc H H' : Hp} {hp : List Cell} {i : Nat} {x : α} {v : V} (S : Sat Z Bc H hp) (m : Same B Bc) (hx : xs[i]? = some x) (y : J.yld i H v H') :
    ∃ B', Sat Z B' H' hp ∧ Same Bc B' ∧ (I x).p v B' := by
  rcases w.yields i x H v H' hx (m.trans S.bh) y with ⟨rfl, q⟩ | ⟨T, vs, ds, rfl, hT, rfl, r, e⟩ | ⟨T, vs, ds, rfl, hT, rfl, r, e⟩
  · exact ⟨Bc, S, Same.refl Bc, (I x).mono m q⟩
  · obtain ⟨S2, m2⟩ := S.alloc hT (.tup vs)
    exact ⟨_, S2, m2, by rw [e]; exact .tup upd_same (r.mono (m.trans m2))⟩
  · obtain ⟨B2, S2, m2, h2⟩ := S.addTup hT
    exact ⟨B2, S2, m2, by rw [e]; exact .tup h2 (r.mono (m.trans m2))⟩
section
variable {X : Cx} {tg e e2 : Expr} {sl : SL} {hp hp1 hp2 : List Cell} {pos p tpos : Pos}
theorem di_tup {α : Type} {xs : List α} {f : α → PyData} (h : DE X e sl hp (isD (.tuple (xs.map f))) hp1) : DI X tg e sl hp xs (fun x => isD (f x)) hp1 := by
  refine ⟨_, pi_tup h, fun σ H R ⟨Z, B, S, T, k⟩ => ⟨Z, B, S, T, fun v B1 H1 m1 S1 q1 => ?_⟩⟩
  cases q1 with
  | tup h1 r1 =>
    rename_i a vs
    refine ⟨a, rfl, ⟨vs, SqT.of (S1.bh _ _ h1)⟩, k B1 H1 _ m1 S1 ⟨fun i H hi m _ => ?_, fun H m _ => ?_, fun i x H v H' hx m y => ?_⟩⟩
    · have hl : i < vs.length := by rw [r1.length, List.length_map]; exact hi
      exact ⟨vs, vs[i], SqT.of (m _ _ h1), by simp [hl]⟩
    · exact ⟨vs, SqT.of (m _ _ h1), by rw [r1.length, List.length_map]; exact Nat.le_refl _⟩
    · obtain ⟨rfl, y⟩ := y
      obtain ⟨v', h2, h3⟩ := r1.get (i := i) (d := f x) (by rw [List.getElem?_map, hx] <;> rfl)
      have := y vs (SqT.of (m _ _ h1))
      rw [h2] at this
      cases this
      exact .inl ⟨rfl, h3⟩
theorem di_list {α : Type} {xs : List α} {f : α → PyData} (h : DE X e sl hp (isD (.list (xs.map f))) hp1) : DI X tg e sl hp xs (fun x => isD (f x)) hp1 := by
  refine ⟨_, pi_list h, fun σ H R ⟨Z, B, S, T, k⟩ => ⟨Z, B, S, T, fun v B1 H1 m1 S1 q1 => ?_⟩⟩
  cases q1 with
  | lst h1 r1 =>
    rename_i a vs
    refine ⟨a, rfl, ⟨vs, SqL.of (S1.bh _ _ h1)⟩, k B1 H1 _ m1 S1 ⟨fun i H hi m _ => ?_, fun H m _ => ?_, fun i x H v H' hx m y => ?_⟩⟩
    · have hl : i < vs.length := by rw [r1.length, List.length_map]; exact hi
      exact ⟨vs, vs[i], SqL.of (m _ _ h1), by simp [hl]⟩
    · exact ⟨vs, SqL.of (m _ _ h1), by rw [r1.length, List.length_map]; exact Nat.le_refl _⟩
    · obtain ⟨rfl, y⟩ := y
      obtain ⟨v', h2, h3⟩ := r1.get (i := i) (d := f x) (by rw [List.getElem?_map, hx] <;> rfl)
      have := y vs (SqL.of (m _ _ h1))
      rw [h2] at this
      cases this
      exact .inl ⟨rfl, h3⟩
/-- a list of things told one by one -/
theorem di_listA {α : Type} {xs : List α} {f : α → MA} (h : DE X e sl hp (listA (xs.map f)) hp1) : DI X tg e sl hp xs f hp1 := by
  refine ⟨_, pi_list h, fun σ H R ⟨Z, B, S, T, k⟩ => ⟨Z, B, S, T, fun v B1 H1 m1 S1 q1 => ?_⟩⟩
  obtain ⟨a, vs, rfl, h1, r1⟩ := q1
  have hlen : vs.length = xs.length := by rw [Paired.length r1, List.length_map]
  refine ⟨a, rfl, ⟨vs, SqL.of (S1.bh _ _ h1)⟩, k B1 H1 _ m1 S1 ⟨fun i H hi m _ => ?_, fun H m _ => ?_, fun i x H v H' hx m y => ?_⟩⟩
  · exact ⟨vs, vs[i], SqL.of (m _ _ h1), by simp [hlen, hi]⟩
  · exact ⟨vs, SqL.of (m _ _ h1), Nat.le_of_eq hlen⟩
  · obtain ⟨rfl, y⟩ := y
    have hv := y vs (SqL.of (m _ _ h1))
    refine .inl ⟨rfl, ?_⟩
    have : ∀ {vs : List V} {As : List MA} {i : Nat} {v : V} {A : MA}, All2 B1 vs As → vs[i]? = some v → As[i]? = some A → A.p v B1 := by
      intro vs As i v A h
      induction h generalizing i with
      | nil => intro h1; simp at h1
      | cons h1 _ ih =>
        intro h2 h3
        cases i with
        | zero => simp at h2 h3; subst h2 h3; exact h1
        | succ i => exact ih (by simpa using h2) (by simpa using h3)
    exact this r1 hv (by rw [List.getElem?_map, hx] <;> rfl)
theorem di_range1 {n : Nat} (hm : X.mg "range" = none) (h : DA X [e] sl hp [isI (n : Int)] hp1) (hn : n ≤ 1000000) (hg : Gl X "range" := by rfl) (hs : starEach [e] X.env = [(false, eval e X.env)] := by rfl) :
    DI X tg (.Call (.Name "range" p) [e] [] pos) sl hp (List.range n) (fun i => isI ((i : Nat) : Int)) hp1 := by
  refine ⟨_, pi_range1 hg hm h hs, fun σ H R ⟨Z, B, S, T, k⟩ => ⟨Z, B, S, T, fun vs B1 H1 m1 S1 q1 => ?_⟩⟩
  obtain ⟨v, rfl, hv⟩ := all2_one q1
  cases hv
  refine ⟨_, rfl, by omega, by omega, ?_⟩
  rw [Int.toNat_natCast]
  refine k B1 H1 _ m1 S1 ⟨fun i H hi m _ => ?_, fun H m _ => ?_, fun i x H v H' hx m y => ?_⟩
  · rw [List.length_range] at hi; exact hi
  · rw [List.length_range]; exact Nat.le_refl n
  · obtain ⟨rfl, rfl⟩ := y
    obtain ⟨hl, he⟩ := List.getElem?_eq_some_iff.mp hx
    rw [List.getElem_range] at he
    subst he
    refine .inl ⟨rfl, ?_⟩
    rw [Int.zero_add]
    exact .int _
end

/-! ### comprehensions -/
theorem wipe_at {σ : L2.St} : ∀ {vs : List Nat} {v : Nat}, v ∈ vs → ∀ x, (wipe σ vs)[v]? = some x → x = none
  | w :: vs, v, h, x, e => by
    have e' : ((wipe σ vs).set w none)[v]? = some x := e
    by_cases q : w = v
    · subst q
      have hl := (List.getElem?_eq_some_iff.mp e').1
      rw [List.getElem?_set_self (by simpa using hl)] at e'
      exact (Option.some.inj e').symm
    · rw [List.getElem?_set_ne q] at e'
      rcases List.mem_cons.mp h with h | h
      · exact absurd h.symm q
      · exact wipe_at h x e'
theorem wipe_sub {σ : L2.St} {vs : List Nat} : ∀ {ws : List Nat}, (∀ v ∈ ws, v ∈ vs) → wipe (wipe σ vs) ws = wipe σ vs
  | [], _ => rfl
  | w :: ws, h => by
    show (wipe (wipe σ vs) ws).set w none = wipe σ vs
    rw [wipe_sub fun v hv => h v (List.mem_cons_of_mem _ hv)]
    apply List.ext_getElem?
    intro i
    by_cases q : w = i
    · subst q
      by_cases hl : w < (wipe σ vs).length
      · rw [List.getElem?_set_self hl, List.getElem?_eq_getElem hl]
        have := wipe_at (σ := σ) (h w (List.mem_cons_self ..)) _ (List.getElem?_eq_getElem hl)
        rw [this]
      · rw [List.getElem?_eq_none (by simpa using hl), List.getElem?_eq_none (by simpa using hl)]
    · rw [List.getElem?_set_ne q]
section
variable {X : Cx} {sl : SL} {hp hp1 hp2 : List Cell} {pos pos' spos py : Pos} {elt tg iter : Expr} {ifs : List Expr} {scope : Scope}
theorem lc_main {α : Type} {xs : List α} {I : α → MA} {wi : TI} {F : List (Addr × HO)} (hF : HdC hp1 F) (hw : ∀ σ H R, tDI sl hp xs I hp1 F σ H R → wi σ H R) {vs js : List Nat} {As : α → List MA} {t : α → Bool} {Eb : α → MA} (hjs : ∀ j ∈ js, j ∈ vs) (hz : xs.length ≤ sizeLine) :
    ∀ σ H Q, tDE sl hp (listA ((xs.filter t).map Eb)) hp1 σ H Q →
      tLc wi (fun v σ H Q => ∃ x, x ∈ xs ∧ tDG (I x) js (As x) v σ H Q) (fun σ H Q => ∃ x, x ∈ xs ∧ ∃ fr, tDT (setSL (wipeS sl vs) js (As x)) (hp1 ++ fr) (t x) (hp1 ++ fr) σ H Q)
        (fun σ H Q => ∃ x, (x ∈ xs ∧ t x = true) ∧ ∃ fr, tDE (setSL (wipeS sl vs) js (As x)) (hp1 ++ fr) (Eb x) (hp1 ++ fr) σ H Q) vs σ H Q := by
  intro σ H Q ⟨Z, B, S, T, k⟩
  refine hw σ H _ ⟨Z, B, S, T, fun B1 H1 J m1 S1 W => fun D hD => ?_⟩
  -- turn i, the heap
  refine ⟨fun i m Hc => m = xs.length - i ∧ i ≤ xs.length ∧ ∃ Bc acc, Same B1 Bc ∧ Sat Z Bc Hc (hp1 ++ [⟨D, oRaw (.lst acc)⟩]) ∧ All2 Bc acc (((xs.take i).filter t).map Eb), ⟨xs.length, by simp, Nat.zero_le _, ?_⟩, ?_⟩
  · obtain ⟨S2, _⟩ := S1.allocOwn hD (o := .lst []) (mo := oRaw (.lst [])) rfl
    exact ⟨B1, [], Same.refl B1, S2, by simp; exact .nil⟩
  · rintro i m Hc ⟨rfl, hi, Bc, acc, mc, Sc, ac⟩
    by_cases hlt : i < xs.length
    · refine .inr ⟨W.goes i Hc hlt (mc.trans Sc.bh) (hF _ _ _ _ Sc), fun H' => i + 1 ≤ xs.length ∧ ∃ Bc acc, Same B1 Bc ∧ Sat Z Bc H' (hp1 ++ [⟨D, oRaw (.lst acc)⟩]) ∧ All2 Bc acc (((xs.take (i + 1)).filter t).map Eb),
        fun H' q => ⟨xs.length - (i + 1), by omega, rfl, q.1, q.2⟩, fun v H' y => ?_⟩
      have hx : xs[i]? = some xs[i] := List.getElem?_eq_getElem hlt
      generalize hxe : xs[i] = x at hx
      have hmem : x ∈ xs := List.mem_of_getElem? hx
      have htk : xs.take (i + 1) = xs.take i ++ [x] := by
        rw [List.take_add_one, hx] <;> rfl
      obtain ⟨Bd, Sd, md, qd⟩ := W.step Sc mc hx y
      refine ⟨x, hmem, Bd, Sd.bh, qd, fun us hu => ⟨(wipe_setAll hjs).trans (wipe_sub fun _ h => h), x, hmem, [⟨D, oRaw (.lst acc)⟩], Z, Bd, Sd, ?_, fun Be He me Se => ?_⟩⟩
      · exact (SatS.wipe (T.mono (m1.trans (mc.trans md))) vs).setAll hu
      · cases ht : t x with
        | true =>
          refine iteT ⟨x, ⟨hmem, ht⟩, [⟨D, oRaw (.lst acc)⟩], Z, Be, Se, ((SatS.wipe (T.mono (m1.trans (mc.trans md))) vs).setAll hu).mono me, fun w Bf Hf mf Sf qf => ?_⟩
          have hcell : (hp1 ++ [(⟨D, oRaw (.lst acc)⟩ : Cell)])[hp1.length]? = some ⟨D, oRaw (.lst acc)⟩ := by simp
          obtain ⟨o, ho, hoo⟩ := Sf.at hcell
          have hoo' : o = .lst acc := hoo
          subst hoo'
          have hlen : acc.length ≤ i := by
            rw [Paired.length ac, List.length_map]
            have := List.length_filter_le t (xs.take i)
            rw [List.length_take] at this
            omega
          refine ⟨acc, ho, by omega, by omega, Bf, acc ++ [w], mc.trans (md.trans (me.trans mf)), ?_, ?_⟩
          · have S7 := Sf.write hcell (o := .lst (acc ++ [w])) (mo := oRaw (.lst (acc ++ [w]))) rfl
            have e : (hp1 ++ [(⟨D, oRaw (.lst acc)⟩ : Cell)]).set hp1.length ⟨D, oRaw (.lst (acc ++ [w]))⟩ = hp1 ++ [⟨D, oRaw (.lst (acc ++ [w]))⟩] := by
              rw [List.set_append_right _ _ (Nat.le_refl _)]; simp
            rw [e] at S7
            exact S7
          · rw [htk, List.filter_append, List.map_append]
            have e2 : [x].filter t = [x] := by simp [List.filter_cons, ht]
            rw [e2]
            exact Paired.snoc (All2.mono (md.trans (me.trans mf)) ac) qf
        | false =>
          refine iteF ⟨by omega, Be, acc, mc.trans (md.trans me), Se, ?_⟩
          rw [htk, List.filter_append, List.map_append]
          have e2 : [x].filter t = [] := by simp [List.filter_cons, ht]
          rw [e2, List.map_nil, List.append_nil]
          exact All2.mono (md.trans me) ac
    · have e : i = xs.length := by omega
      subst e
      refine .inl ⟨W.stops Hc (mc.trans Sc.bh) (hF _ _ _ _ Sc), ?_⟩
      have hDn : D ∉ Z.own0 := fun z => Sc.on D z (S1.free0 hD)
      obtain ⟨o, h1, h2, h3, h4⟩ := Sat.freeze (hp' := []) (c := ⟨D, oRaw (.lst acc)⟩) Sc hDn
      have h2' : o = .lst acc := h2
      subst h2'
      rw [List.append_nil] at h3
      rw [List.take_length] at ac
      exact k _ _ _ (m1.trans (mc.trans h4)) h3 ⟨D, acc, rfl, upd_same, All2.mono h4 ac⟩
/-- [elt for tg in iter if ..] -/
theorem de_lc {α : Type} {xs : List α} {I : α → MA} (own : List (Str × Nat)) (js : List Nat) (As : α → List MA) (t : α → Bool) (Eb : α → MA) (hN : X.N.Nodup) {F : List (Addr × HO)} (hi : DIF X tg iter sl hp xs I hp1 F) (ok : blkC X.N X.env.scope scope own = true)
    (hg : ∀ x, x ∈ xs → ∀ s H C cl fp, PG (X.blk s H scope (compEnvC scope cl C X.env) fp) tg (tDG (I x) js (As x)))
    (ht : ∀ x, x ∈ xs → ∀ s H C cl fp, DTs (X.blk s H scope (compEnvC scope cl C X.env) fp) ifs (setSL (wipeS sl (own.map (·.2))) js (As x)) hp1 (t x))
    (he : ∀ x, x ∈ xs → t x = true → ∀ s H C cl fp, DE (X.blk s H scope (compEnvC scope cl C X.env) fp) elt (setSL (wipeS sl (own.map (·.2))) js (As x)) hp1 (Eb x) hp1) (hz : xs.length ≤ sizeLine)
    (hjs : ∀ j ∈ js, j ∈ own.map (·.2) := by decide) (hc : X.calm = true := by rfl) (hs : ∀ x, foldedSetIterable iter X.env x = pure x := by intro _; rfl) (hF : HdC hp1 F := by exact HdC.nil) :
    DE X (.ListComp elt [⟨tg, iter, ifs, 0⟩] scope pos) sl hp (listA ((xs.filter t).map Eb)) hp1 := by
  obtain ⟨wi, h1, h2⟩ := hi.ex
  refine pe_imp (pe_lc (own := own) (wi := wi) (g := fun v σ H Q => ∃ x, x ∈ xs ∧ tDG (I x) js (As x) v σ H Q) (tt := fun σ H Q => ∃ x, x ∈ xs ∧ ∃ fr, tDT (setSL (wipeS sl (own.map (·.2))) js (As x)) (hp1 ++ fr) (t x) (hp1 ++ fr) σ H Q)
    (te := fun σ H Q => ∃ x, (x ∈ xs ∧ t x = true) ∧ ∃ fr, tDE (setSL (wipeS sl (own.map (·.2))) js (As x)) (hp1 ++ fr) (Eb x) (hp1 ++ fr) σ H Q) hc hN h1 (blkOk_by ok) ?_ ?_ ?_ hs) (lc_main hF h2 hjs hz)
  · intro s H C cl fp
    refine pg_ex fun x => ⟨fun pins s' σ H' v u Q I' r ⟨hx, w⟩ => (hg x hx s H C cl fp).run pins s' σ H' v u Q I' r w⟩
  · intro s H C cl fp
    refine pts_ex fun x => pts_hyp fun hx => pts_ex fun fr => pts_imp (ht x hx s H C cl fp) fun _ _ _ => tDT_frame
  · intro s H C cl fp
    refine pe_ex fun x => pe_hyp fun hx => pe_ex fun fr => pe_imp (he x hx.1 hx.2 s H C cl fp) fun _ _ _ => tDE_frame
theorem dts_nil : DTs X [] sl hp true := pts_imp pts_nil fun σ H Q ⟨Z, B, S, T, k⟩ => k B H (Same.refl B) S
theorem dts_one {c : Expr} {b : Bool} (h : DT X c sl hp b hp) : DTs X [c] sl hp b := pts_one h
/-- a list of data -/
theorem listA_isD {ds : List PyData} : ∀ v B, (listA (ds.map isD)).p v B → (isD (.list ds)).p v B := fun v B ⟨a, xs, e, h, r⟩ => by
  subst e
  exact .lst h (all2_isD r)
theorem de_lcD {α : Type} {xs : List α} {I : α → MA} (own : List (Str × Nat)) (js : List Nat) (As : α → List MA) (t : α → Bool) (f : α → PyData) (hN : X.N.Nodup) {F : List (Addr × HO)} (hi : DIF X tg iter sl hp xs I hp1 F) (ok : blkC X.N X.env.scope scope own = true)
    (hg : ∀ x, x ∈ xs → ∀ s H C cl fp, PG (X.blk s H scope (compEnvC scope cl C X.env) fp) tg (tDG (I x) js (As x)))
    (ht : ∀ x, x ∈ xs → ∀ s H C cl fp, DTs (X.blk s H scope (compEnvC scope cl C X.env) fp) ifs (setSL (wipeS sl (own.map (·.2))) js (As x)) hp1 (t x))
    (he : ∀ x, x ∈ xs → t x = true → ∀ s H C cl fp, DE (X.blk s H scope (compEnvC scope cl C X.env) fp) elt (setSL (wipeS sl (own.map (·.2))) js (As x)) hp1 (isD (f x)) hp1) (hz : xs.length ≤ sizeLine)
    (hjs : ∀ j ∈ js, j ∈ own.map (·.2) := by decide) (hc : X.calm = true := by rfl) (hs : ∀ x, foldedSetIterable iter X.env x = pure x := by intro _; rfl) (hF : HdC hp1 F := by exact HdC.nil) :
    DE X (.ListComp elt [⟨tg, iter, ifs, 0⟩] scope pos) sl hp (isD (.list ((xs.filter t).map f))) hp1 := by
  refine de_is (de_lc own js As t (fun x => isD (f x)) hN hi ok hg ht he hz hjs hc hs hF) fun v B q => ?_
  have e : (xs.filter t).map (fun x => isD (f x)) = ((xs.filter t).map f).map isD := by rw [List.map_map] <;> rfl
  rw [e] at q
  exact listA_isD v B q
end

/-! ### statements -/
theorem ps_imp {X : Cx} {st : Stmt} {t t' : TS} (h : PS X st t) (i : ∀ D σ H, t' D σ H → t D σ H) : PS X st t' := ⟨fun pins s σ H D I w => h.run pins s σ H D I (i _ _ _ w)⟩
theorem pss_imp {X : Cx} {st : List Stmt} {t t' : TS} (h : PSs X st t) (i : ∀ D σ H, t' D σ H → t D σ H) : PSs X st t' := ⟨fun pins s σ H D I w => h.run pins s σ H D I (i _ _ _ w)⟩
theorem pss_ex {X : Cx} {st : List Stmt} {α : Type} {t : α → TS} (h : ∀ x, PSs X st (t x)) : PSs X st (fun D σ H => ∃ x, t x D σ H) := ⟨fun pins s σ H D I ⟨x, w⟩ => (h x).run pins s σ H D I w⟩
theorem pss_hyp {X : Cx} {st : List Stmt} {φ : Prop} {t : TS} (h : φ → PSs X st t) : PSs X st (fun D σ H => φ ∧ t D σ H) := ⟨fun pins s σ H D I ⟨x, w⟩ => (h x).run pins s σ H D I w⟩
abbrev NxP := SL → List Cell → Prop
abbrev RtP := V → Hp → List Cell → Prop
def tDS (own0 : List Addr) (sl : SL) (hp : List Cell) (Nx : NxP) (Rt : RtP) : TS := fun D σ H => ∃ Z B, Z.own0 = own0 ∧ Sat Z B H hp ∧ SatS B σ sl ∧
  (∀ σ' B' H' sl' hp', Same B B' → Nx sl' hp' → Sat Z B' H' hp' → SatS B' σ' sl' → D.nx σ' H') ∧ ∀ v B' H' hp', Same B B' → Sat Z B' H' hp' → Rt v B' hp' → D.rt v H'
abbrev DSs (X : Cx) (own0 : List Addr) (sts : List Stmt) (sl : SL) (hp : List Cell) (Nx : NxP) (Rt : RtP) : Prop := PSs X sts (tDS own0 sl hp Nx Rt)
section
variable {X : Cx} {own0 : List Addr} {sl sl' : SL} {hp hp1 hp2 : List Cell} {A : MA} {Nx M : NxP} {Rt : RtP} {rest body sts sts2 : List Stmt} {e c tg iter : Expr} {pos pos' : Pos} {b : Bool}
theorem dss_nil (w : Wk sl sl') (h : Nx sl' hp) : DSs X own0 [] sl hp Nx Rt := pss_imp pss_nil fun D σ H ⟨Z, B, _, S, T, k, _⟩ => k σ B H sl' hp (Same.refl B) h S (T.wk w)
theorem dss_wk (w : Wk sl sl') (h : DSs X own0 sts sl' hp Nx Rt) : DSs X own0 sts sl hp Nx Rt := pss_imp h fun D σ H ⟨Z, B, z, S, T, k, r⟩ => ⟨Z, B, z, S, T.wk w, k, r⟩
theorem dss_nx {Nx' : NxP} (h : DSs X own0 sts sl hp Nx' Rt) (i : ∀ s h, Nx' s h → Nx s h) : DSs X own0 sts sl hp Nx Rt := pss_imp h fun D σ H ⟨Z, B, z, S, T, k, r⟩ => ⟨Z, B, z, S, T, fun σ' B' H' s h m n => k σ' B' H' s h m (i s h n), r⟩
theorem dss_set {i : Nat} {x : Str} (he : DE X e sl hp A hp1) (hr : DSs X own0 rest (sl.set i (some A)) hp1 Nx Rt) (hN : X.N.Nodup) (hi : X.N[i]? = some x := by rfl) (hx : Loc X.env.scope x := by first | exact Or.inl rfl | exact Or.inr rfl) (hs : swapsWith e (some (.Name x pos')) pos.line X.env = pure false := by rfl) (hf : X.fn x = true ∨ X.env.scope.names.lookup x = some .local := by first | exact .inl rfl | exact .inr rfl | assumption) :
    DSs X own0 (.Assign [.Name x pos'] e pos :: rest) sl hp Nx Rt :=
  pss_imp (pss_cons (ps_set hN hi hx he hs hf) hr) fun D σ H ⟨Z, B, z, S, T, k, r⟩ => ⟨Z, B, S, T, fun v B1 H1 m1 S1 q1 =>
    ⟨Z, B1, z, S1, (T.mono m1).set q1 i, fun σ' B' H' s h m => k σ' B' H' s h (m1.trans m), fun v B' H' h m => r v B' H' h (m1.trans m)⟩⟩
/-- x = [..], a comprehension -/
theorem dss_setTo {i : Nat} {st : Stmt} {te : TE} (hst : PS X st (tAsg te (gName i))) (ht : ∀ σ H Q, tDE sl hp A hp1 σ H Q → te σ H Q) (hr : DSs X own0 rest (sl.set i (some A)) hp1 Nx Rt) : DSs X own0 (st :: rest) sl hp Nx Rt :=
  pss_imp (pss_cons hst hr) fun D σ H ⟨Z, B, z, S, T, k, r⟩ => ht σ H _ ⟨Z, B, S, T, fun v B1 H1 m1 S1 q1 =>
    ⟨Z, B1, z, S1, (T.mono m1).set q1 i, fun σ' B' H' s h m => k σ' B' H' s h (m1.trans m), fun v B' H' h m => r v B' H' h (m1.trans m)⟩⟩
theorem dss_ret (he : DE X e sl hp A hp1) (h : ∀ v B, A.p v B → Rt v B hp1) : DSs X own0 (.Return (some e) pos :: rest) sl hp Nx Rt :=
  pss_imp (pss_cons (ps_ret he) pss_never) fun D σ H ⟨Z, B, z, S, T, k, r⟩ => ⟨Z, B, S, T, fun v B1 H1 m1 S1 q1 => r v B1 H1 hp1 m1 S1 (h v B1 q1)⟩
theorem dss_expr (he : DE X e sl hp A hp1) (hr : DSs X own0 rest sl hp1 Nx Rt) (hs : swapsWith e none pos.line X.env = pure false := by rfl) : DSs X own0 (.Expr e pos :: rest) sl hp Nx Rt :=
  pss_imp (pss_cons (ps_expr he hs) hr) fun D σ H ⟨Z, B, z, S, T, k, r⟩ => ⟨Z, B, S, T, fun v B1 H1 m1 S1 q1 =>
    ⟨Z, B1, z, S1, T.mono m1, fun σ' B' H' s h m => k σ' B' H' s h (m1.trans m), fun v B' H' h m => r v B' H' h (m1.trans m)⟩⟩
/-- if: both ways meet in M -/
theorem dss_if (hc : DT X c sl hp b hp1) (h1 : b = true → DSs X own0 sts sl hp1 M Rt) (h2 : b = false → DSs X own0 sts2 sl hp1 M Rt) (hr : ∀ s h, M s h → DSs X own0 rest s h Nx Rt) : DSs X own0 (.If c sts sts2 pos :: rest) sl hp Nx Rt := by
  refine pss_imp (pss_cons (ps_if (t := fun D σ H => b = true ∧ tDS own0 sl hp1 M Rt D σ H) (u := fun D σ H => b = false ∧ tDS own0 sl hp1 M Rt D σ H) hc (pss_hyp h1) (pss_hyp h2)) (pss_ex fun s => pss_ex fun h => pss_hyp (hr s h))) ?_
  intro D σ H ⟨Z, B, z, S, T, k, r⟩
  refine ⟨Z, B, S, T, fun B1 H1 m1 S1 => ?_⟩
  have go : tDS own0 sl hp1 M Rt { D with nx := fun σ' H' => ∃ s h, M s h ∧ tDS own0 s h Nx Rt D σ' H' } σ H1 := ⟨Z, B1, z, S1, T.mono m1, fun σ' B' H' s h m hM S' T' => ⟨s, h, hM, Z, B', z, S', T',
    fun σ2 B2 H2 s2 h2 m2 => k σ2 B2 H2 s2 h2 (m1.trans (m.trans m2)), fun v B2 H2 h2 m2 => r v B2 H2 h2 (m1.trans (m.trans m2))⟩, fun v B' H' h m => r v B' H' h (m1.trans m)⟩
  cases b with
  | true => exact iteT ⟨rfl, go⟩
  | false => exact iteF ⟨rfl, go⟩
/-- if c: .. return ..; what follows -/
theorem dss_ifr (hc : DT X c sl hp b hp1) (h1 : b = true → DSs X own0 sts sl hp1 (fun _ _ => False) Rt) (h2 : b = false → DSs X own0 rest sl hp1 Nx Rt) : DSs X own0 (.If c sts [] pos :: rest) sl hp Nx Rt :=
  dss_if (M := fun s h => b = false ∧ s = sl ∧ h = hp1) hc (fun e => dss_nx (h1 e) fun _ _ z => z.elim) (fun e => dss_nil (Wk.refl sl) ⟨e, rfl, rfl⟩) fun s h ⟨e, e1, e2⟩ => by subst e1 e2; exact h2 e
/-- if c: .. (no else): both meet in what M says -/
theorem dss_when (hc : DT X c sl hp b hp1) (h1 : b = true → DSs X own0 sts sl hp1 M Rt) (h2 : b = false → M sl hp1) (hr : ∀ s h, M s h → DSs X own0 rest s h Nx Rt) : DSs X own0 (.If c sts [] pos :: rest) sl hp Nx Rt :=
  dss_if hc h1 (fun e => dss_nil (Wk.refl sl) (h2 e)) hr
theorem dss_for {α : Type} {xs : List α} {I : α → MA} {F : List (Addr × HO)} (hi : DIF X tg iter sl hp xs I hp1 F) (js : List Nat) (As : α → List MA) (hg : ∀ x, x ∈ xs → PG X tg (tDG (I x) js (As x))) (E : Nat → NxP) (h0 : E 0 sl hp1)
    (hb : ∀ i x s h, xs[i]? = some x → E i s h → DSs X own0 body (setSL s js (As x)) h (E (i + 1)) Rt) (hr : ∀ s h, E xs.length s h → DSs X own0 rest s h Nx Rt)
    (hp' : PassesOwn (model X.prog X.w) X.A X.env X.xe := by exact PassesOwn.never) (hc : X.calm = true := by rfl) (hs : ∀ x, foldedSetIterable iter X.env x = pure x := by intro _; rfl) (hF : ∀ i s h, E i s h → HdC h F := by exact fun _ _ _ _ => HdC.nil) : DSs X own0 (.For tg iter body [] pos :: rest) sl hp Nx Rt := by
  obtain ⟨wi, w1, w2⟩ := hi.ex
  refine pss_imp (pss_cons (ps_for (g := fun v σ H Q => ∃ x, x ∈ xs ∧ tDG (I x) js (As x) v σ H Q) (tb := fun D σ H => ∃ i x s h, (xs[i]? = some x ∧ E i s h) ∧ tDS own0 (setSL s js (As x)) h (E (i + 1)) Rt D σ H) hp' hc w1 ?_ ?_ hs)
    (pss_ex fun s => pss_ex fun h => pss_hyp (hr s h))) ?_
  · exact pg_ex fun x => ⟨fun pins s' σ H' v u Q I' r ⟨hx, w⟩ => (hg x hx).run pins s' σ H' v u Q I' r w⟩
  · exact pss_ex fun i => pss_ex fun x => pss_ex fun s => pss_ex fun h => pss_hyp fun q => hb i x s h q.1 q.2
  · intro D σ H ⟨Z, B, z, S, T, k, r⟩
    refine w2 σ H _ ⟨Z, B, S, T, fun B1 H1 J m1 S1 W => ?_⟩
    refine ⟨fun i m σ H => m = xs.length - i ∧ i ≤ xs.length ∧ ∃ Bc s h, Same B1 Bc ∧ E i s h ∧ Sat Z Bc H h ∧ SatS Bc σ s, ⟨xs.length, by simp, Nat.zero_le _, B1, sl, hp1, Same.refl B1, h0, S1, T.mono m1⟩, ?_⟩
    rintro i m σc Hc ⟨rfl, hi2, Bc, s, h, mc, hE, Sc, Tc⟩
    by_cases hlt : i < xs.length
    · refine .inr ⟨W.goes i Hc hlt (mc.trans Sc.bh) (hF i s h hE _ _ _ [] (by rw [List.append_nil]; exact Sc)), fun σ' H' => ∃ Bc s h, Same B1 Bc ∧ E (i + 1) s h ∧ Sat Z Bc H' h ∧ SatS Bc σ' s, fun σ' H' q => ⟨xs.length - (i + 1), by omega, rfl, hlt, q⟩, fun v H' y => ?_⟩
      have hx : xs[i]? = some xs[i] := List.getElem?_eq_getElem hlt
      obtain ⟨Bd, Sd, md, qd⟩ := W.step Sc mc hx y
      refine ⟨xs[i], List.mem_of_getElem? hx, Bd, Sd.bh, qd, fun us hu => ⟨i, xs[i], s, h, ⟨hx, hE⟩, Z, Bd, z, Sd, (Tc.mono md).setAll hu, ?_, ?_⟩⟩
      · exact fun σ' B' H' s' h' m' hE' S' T' => ⟨B', s', h', mc.trans (md.trans m'), hE', S', T'⟩
      · exact fun v B' H' h' m' => r v B' H' h' (m1.trans (mc.trans (md.trans m')))
    · have e : i = xs.length := by omega
      subst e
      exact .inl ⟨W.stops Hc (mc.trans Sc.bh) (hF _ s h hE _ _ _ [] (by rw [List.append_nil]; exact Sc)), s, h, hE, Z, Bc, z, Sc, Tc, fun σ' B' H' s' h' m' => k σ' B' H' s' h' (m1.trans (mc.trans m')), fun v B' H' h' m' => r v B' H' h' (m1.trans (mc.trans m'))⟩
theorem dss_while (E : Nat → NxP) (m0 : Nat) (h0 : E m0 sl hp) (hb : ∀ m s h, E m s h → ∃ b h', DT X c s h b h' ∧ (b = true → DSs X own0 body s h' (fun s2 h2 => ∃ m', m' < m ∧ E m' s2 h2) Rt) ∧ (b = false → DSs X own0 rest s h' Nx Rt))
    (hp' : PassesOwn (model X.prog X.w) X.A X.env X.xe := by exact PassesOwn.never) : DSs X own0 (.While c body [] pos :: rest) sl hp Nx Rt := by
  let U : Type := { q : Nat × SL × List Cell × Bool × List Cell // E q.1 q.2.1 q.2.2.1 ∧ DT X c q.2.1 q.2.2.1 q.2.2.2.1 q.2.2.2.2 ∧ (q.2.2.2.1 = true → DSs X own0 body q.2.1 q.2.2.2.2 (fun s2 h2 => ∃ m', m' < q.1 ∧ E m' s2 h2) Rt) ∧ (q.2.2.2.1 = false → DSs X own0 rest q.2.1 q.2.2.2.2 Nx Rt) }
  have hc : PT X c (fun σ H Q => ∃ q : U, tDT q.1.2.1 q.1.2.2.1 q.1.2.2.2.1 q.1.2.2.2.2 σ H Q) := ⟨fun pins s σ H Q I ⟨q, w⟩ => q.2.2.1.run pins s σ H Q I w⟩
  have hbd : PSs X body (fun D σ H => ∃ q : U, q.1.2.2.2.1 = true ∧ tDS own0 q.1.2.1 q.1.2.2.2.2 (fun s2 h2 => ∃ m', m' < q.1.1 ∧ E m' s2 h2) Rt D σ H) := pss_ex fun q => pss_hyp fun e => q.2.2.2.1 e
  have hrs : PSs X rest (fun D σ H => ∃ q : U, q.1.2.2.2.1 = false ∧ tDS own0 q.1.2.1 q.1.2.2.2.2 Nx Rt D σ H) := pss_ex fun q => pss_hyp fun e => q.2.2.2.2 e
  refine pss_imp (pss_cons (ps_while hp' hc hbd) hrs) ?_
  intro D σ H ⟨Z, B, z, S, T, k, r⟩
  refine ⟨fun m σ H => ∃ Bc s h, Same B Bc ∧ E m s h ∧ Sat Z Bc H h ∧ SatS Bc σ s, ⟨m0, B, sl, hp, Same.refl B, h0, S, T⟩, ?_⟩
  rintro m σc Hc ⟨Bc, s, h, mc, hE, Sc, Tc⟩
  obtain ⟨bb, h', d1, d2, d3⟩ := hb m s h hE
  cases bb with
  | true =>
    refine ⟨(⟨(m, s, h, true, h'), hE, d1, d2, d3⟩ : U), Z, Bc, Sc, Tc, fun B1 H1 m1 S1 => ?_⟩
    refine iteT ⟨fun σ' H' => ∃ m', m' < m ∧ ∃ Bc s h, Same B Bc ∧ E m' s h ∧ Sat Z Bc H' h ∧ SatS Bc σ' s, fun σ' H' ⟨m', l, w⟩ => ⟨m', l, w⟩, (⟨(m, s, h, true, h'), hE, d1, d2, d3⟩ : U), rfl, Z, B1, z, S1, Tc.mono m1, ?_, fun v B' H' h2 m' => r v B' H' h2 (mc.trans (m1.trans m'))⟩
    exact fun σ' B' H' s2 h2 m' ⟨mm, l, e2⟩ S' T' => ⟨mm, l, B', s2, h2, mc.trans (m1.trans m'), e2, S', T'⟩
  | false =>
    refine ⟨(⟨(m, s, h, false, h'), hE, d1, d2, d3⟩ : U), Z, Bc, Sc, Tc, fun B1 H1 m1 S1 => ?_⟩
    exact iteF ⟨(⟨(m, s, h, false, h'), hE, d1, d2, d3⟩ : U), rfl, Z, B1, z, S1, Tc.mono m1, fun σ' B' H' s2 h2 m' => k σ' B' H' s2 h2 (mc.trans (m1.trans m')), fun v B' H' h2 m' => r v B' H' h2 (mc.trans (m1.trans m'))⟩

/-- x = [elt for tg in iter if ..] on one line -/
theorem dss_lc {α : Type} {xs : List α} {I : α → MA} {i : Nat} {x : Str} {elt : Expr} {ifs : List Expr} {scope : Scope} {spos : Pos} (own : List (Str × Nat)) (js : List Nat) (As : α → List MA) (t : α → Bool) (Eb : α → MA) (hN : X.N.Nodup) {F : List (Addr × HO)} (hi : DIF X tg iter sl hp xs I hp1 F) (ok : blkC X.N X.env.scope scope own = true)
    (hg : ∀ x, x ∈ xs → ∀ s H C cl fp, PG (X.blk s H scope (compEnvC scope cl C X.env) fp) tg (tDG (I x) js (As x)))
    (ht : ∀ x, x ∈ xs → ∀ s H C cl fp, DTs (X.blk s H scope (compEnvC scope cl C X.env) fp) ifs (setSL (wipeS sl (own.map (·.2))) js (As x)) hp1 (t x))
    (he : ∀ x, x ∈ xs → t x = true → ∀ s H C cl fp, DE (X.blk s H scope (compEnvC scope cl C X.env) fp) elt (setSL (wipeS sl (own.map (·.2))) js (As x)) hp1 (Eb x) hp1) (hz : xs.length ≤ sizeLine)
    (hr : DSs X own0 rest (sl.set i (some (listA ((xs.filter t).map Eb)))) hp1 Nx Rt)
    (hjs : ∀ j ∈ js, j ∈ own.map (·.2) := by decide) (hy : X.N[i]? = some x := by rfl) (hyl : X.env.scope.names.lookup x = some .local := by rfl) (hsw : swapsWith (.ListComp elt [⟨tg, iter, ifs, 0⟩] scope pos) (some (.Name x pos')) spos.line X.env = pure true := by rfl) (hc : X.calm = true := by rfl) (hs : ∀ x, foldedSetIterable iter X.env x = pure x := by intro _; rfl) (hF : HdC hp1 F := by exact HdC.nil) :
    DSs X own0 (.Assign [.Name x pos'] (.ListComp elt [⟨tg, iter, ifs, 0⟩] scope pos) spos :: rest) sl hp Nx Rt := by
  obtain ⟨wi, h1, h2⟩ := hi.ex
  refine dss_setTo (te := tLc wi (fun v σ H Q => ∃ x, x ∈ xs ∧ tDG (I x) js (As x) v σ H Q) (fun σ H Q => ∃ x, x ∈ xs ∧ ∃ fr, tDT (setSL (wipeS sl (own.map (·.2))) js (As x)) (hp1 ++ fr) (t x) (hp1 ++ fr) σ H Q)
    (fun σ H Q => ∃ x, (x ∈ xs ∧ t x = true) ∧ ∃ fr, tDE (setSL (wipeS sl (own.map (·.2))) js (As x)) (hp1 ++ fr) (Eb x) (hp1 ++ fr) σ H Q) (own.map (·.2))) (ps_setLc hc hN hy hyl hsw h1 (blkOk_by ok) ?_ ?_ ?_ hs) (lc_main hF h2 hjs hz) hr
  · intro s H C cl fp
    refine pg_ex fun x => ⟨fun pins s' σ H' v u Q I' r ⟨hx, w⟩ => (hg x hx s H C cl fp).run pins s' σ H' v u Q I' r w⟩
  · intro s H C cl fp
    refine pts_ex fun x => pts_hyp fun hx => pts_ex fun fr => pts_imp (ht x hx s H C cl fp) fun _ _ _ => tDT_frame
  · intro s H C cl fp
    refine pe_ex fun x => pe_hyp fun hx => pe_ex fun fr => pe_imp (he x hx.1 hx.2 s H C cl fp) fun _ _ _ => tDE_frame
/-- less is told of a slot -/
theorem dss_is {C : MA} (i : Nat) (hi : sl[i]? = some (some A)) (ic : ∀ v B, A.p v B → C.p v B) (h : DSs X own0 sts (sl.set i (some C)) hp Nx Rt) : DSs X own0 sts sl hp Nx Rt := by
  refine pss_imp h fun D σ H ⟨Z, B, z, S, T, k, r⟩ => ?_
  obtain ⟨v, h1, h2⟩ := T.at_ i _ hi
  refine ⟨Z, B, z, S, ?_, k, r⟩
  have := T.set (v := v) (A := C) (ic v B h2) i
  have e : σ.set i (some v) = σ := by
    apply List.ext_getElem?
    intro j
    by_cases e : i = j
    · subst e
      rw [List.getElem?_set_self (List.getElem?_eq_some_iff.mp h1).1, h1]
    · rw [List.getElem?_set_ne e]
  rw [e] at this
  exact this
theorem dss_lcD {α : Type} {xs : List α} {I : α → MA} {i : Nat} {x : Str} {elt : Expr} {ifs : List Expr} {scope : Scope} {spos : Pos} (own : List (Str × Nat)) (js : List Nat) (As : α → List MA) (t : α → Bool) (f : α → PyData) (hN : X.N.Nodup) {F : List (Addr × HO)} (hi : DIF X tg iter sl hp xs I hp1 F) (ok : blkC X.N X.env.scope scope own = true)
    (hg : ∀ x, x ∈ xs → ∀ s H C cl fp, PG (X.blk s H scope (compEnvC scope cl C X.env) fp) tg (tDG (I x) js (As x)))
    (ht : ∀ x, x ∈ xs → ∀ s H C cl fp, DTs (X.blk s H scope (compEnvC scope cl C X.env) fp) ifs (setSL (wipeS sl (own.map (·.2))) js (As x)) hp1 (t x))
    (he : ∀ x, x ∈ xs → t x = true → ∀ s H C cl fp, DE (X.blk s H scope (compEnvC scope cl C X.env) fp) elt (setSL (wipeS sl (own.map (·.2))) js (As x)) hp1 (isD (f x)) hp1) (hz : xs.length ≤ sizeLine) (hlt : i < sl.length)
    (hr : DSs X own0 rest (sl.set i (some (isD (.list ((xs.filter t).map f))))) hp1 Nx Rt)
    (hjs : ∀ j ∈ js, j ∈ own.map (·.2) := by decide) (hy : X.N[i]? = some x := by rfl) (hyl : X.env.scope.names.lookup x = some .local := by rfl) (hsw : swapsWith (.ListComp elt [⟨tg, iter, ifs, 0⟩] scope pos) (some (.Name x pos')) spos.line X.env = pure true := by rfl) (hc : X.calm = true := by rfl) (hs : ∀ x, foldedSetIterable iter X.env x = pure x := by intro _; rfl) (hF : HdC hp1 F := by exact HdC.nil) :
    DSs X own0 (.Assign [.Name x pos'] (.ListComp elt [⟨tg, iter, ifs, 0⟩] scope pos) spos :: rest) sl hp Nx Rt := by
  refine dss_lc own js As t (fun x => isD (f x)) hN hi ok hg ht he hz (dss_is (A := listA ((xs.filter t).map fun x => isD (f x))) (C := isD (.list ((xs.filter t).map f))) i (List.getElem?_set_self hlt) (fun v B q => ?_) (by rw [List.set_set]; exact hr)) hjs hy hyl hsw hc hs hF
  have e : (xs.filter t).map (fun x => isD (f x)) = ((xs.filter t).map f).map isD := by rw [List.map_map] <;> rfl
  rw [e] at q
  exact listA_isD v B q
/-! ### ghosts -/
/-- what is told of a slot is opened -/
theorem dss_open {α : Type} {f : α → MA} (i : Nat) (hi : sl[i]? = some (some (exA f))) (h : ∀ x, DSs X own0 sts (sl.set i (some (f x))) hp Nx Rt) : DSs X own0 sts sl hp Nx Rt := by
  refine pss_imp (pss_ex h) fun D σ H ⟨Z, B, z, S, T, k, r⟩ => ?_
  obtain ⟨v, h1, x, h2⟩ := T.at_ i _ hi
  refine ⟨x, Z, B, z, S, ?_, k, r⟩
  have := T.set (v := v) (A := f x) h2 i
  have e : σ.set i (some v) = σ := by
    apply List.ext_getElem?
    intro j
    by_cases e : i = j
    · subst e
      rw [List.getElem?_set_self (List.getElem?_eq_some_iff.mp h1).1, h1]
    · rw [List.getElem?_set_ne e]
  rw [e] at this
  exact this
theorem dss_and {φ : Prop} (i : Nat) (hi : sl[i]? = some (some (andA φ A))) (h : φ → DSs X own0 sts (sl.set i (some A)) hp Nx Rt) : DSs X own0 sts sl hp Nx Rt := by
  refine pss_imp (pss_hyp h) fun D σ H ⟨Z, B, z, S, T, k, r⟩ => ?_
  obtain ⟨v, h1, h2, h3⟩ := T.at_ i _ hi
  refine ⟨h2, Z, B, z, S, ?_, k, r⟩
  have := T.set (v := v) (A := A) h3 i
  have e : σ.set i (some v) = σ := by
    apply List.ext_getElem?
    intro j
    by_cases e : i = j
    · subst e
      rw [List.getElem?_set_self (List.getElem?_eq_some_iff.mp h1).1, h1]
    · rw [List.getElem?_set_ne e]
  rw [e] at this
  exact this

/-! ### lists that the code owns -/
/-- x = [] -/
theorem dss_newL {i : Nat} {x : Str} {p : Pos} (hr : ∀ a, a ∉ own0 → DSs X own0 rest (sl.set i (some (isV (.ref a)))) (hp ++ [⟨a, oL []⟩]) Nx Rt) (hN : X.N.Nodup) (hi : X.N[i]? = some x := by rfl) (hx : Loc X.env.scope x := by first | exact Or.inl rfl | exact Or.inr rfl)
    (hs : swapsWith (.List [] p) (some (.Name x pos')) pos.line X.env = pure false := by rfl) (hf : X.fn x = true ∨ X.env.scope.names.lookup x = some .local := by first | exact .inl rfl | exact .inr rfl | assumption) :
    DSs X own0 (.Assign [.Name x pos'] (.List [] p) pos :: rest) sl hp Nx Rt := by
  refine pss_imp (pss_cons (ps_set hN hi hx (pe_lst pa_nil) hs hf) (pss_ex fun a => pss_hyp (hr a))) fun D σ H ⟨Z, B, z, S, T, k, r⟩ => ⟨Nat.zero_le _, fun p hp => ?_⟩
  obtain ⟨S2, hn⟩ := S.allocOwn hp (o := .lst []) (mo := oL []) ⟨[], rfl, .nil⟩
  exact ⟨p, by rw [← z]; exact hn, Z, B, z, S2, T.set (A := isV (.ref p)) rfl i, k, r⟩
/-- what is owned is given to all (a list that changes no more) -/
theorem dss_freeze {ds : List PyData} {hp' : List Cell} {a : Addr} (i : Nat) (hi : sl[i]? = some (some (isV (.ref a)))) (ha : a ∉ own0) (h : DSs X own0 sts (sl.set i (some (isD (.list ds)))) (hp ++ hp') Nx Rt) : DSs X own0 sts sl (hp ++ ⟨a, oL ds⟩ :: hp') Nx Rt := by
  refine pss_imp h fun D σ H ⟨Z, B, z, S, T, k, r⟩ => ?_
  obtain ⟨o, h1, ⟨xs, h2, h3⟩, S2, m⟩ := S.freeze (by rw [z]; exact ha)
  subst h2
  obtain ⟨v, e1, e2⟩ := T.at_ i _ hi
  have e2' : v = .ref a := e2
  subst e2'
  refine ⟨Z, _, z, S2, ?_, fun σ' B' H' s h m' => k σ' B' H' s h (m.trans m'), fun v B' H' h m' => r v B' H' h (m.trans m')⟩
  have := (T.mono m).set (v := .ref a) (A := isD (.list ds)) (.lst upd_same (h3.mono m)) i
  have e : σ.set i (some (V.ref a)) = σ := by
    apply List.ext_getElem?
    intro j
    by_cases e : i = j
    · subst e
      rw [List.getElem?_set_self (List.getElem?_eq_some_iff.mp e1).1, e1]
    · rw [List.getElem?_set_ne e]
  rw [e] at this
  exact this
/-- xs.append(e), xs owned -/
theorem dss_append {a : Addr} {ds : List PyData} {d : PyData} (j : Nat) {o : Expr} {apos cpos : Pos} (ho : DE X o sl hp (isV (.ref a)) hp) (he : DE X e sl hp (isD d) hp1) (hj : hp1[j]? = some ⟨a, oL ds⟩) (hz : ds.length < 100000) (hr : DSs X own0 rest sl (hp1.set j ⟨a, oL (ds ++ [d])⟩) Nx Rt)
    (hj0 : hp[j]? = some ⟨a, oL ds⟩) (hs : swapsWith (.Call (.Attribute o "append" apos) [e] [] cpos) none pos.line X.env = pure false := by rfl)
    (hm : PE X (.Call (.Attribute o "append" apos) [e] [] cpos) (tBM X.K "list" rAppend (tDE sl hp (isV (.ref a)) hp) (tCons (tDE sl hp (isD d) hp1) tNil))) :
    DSs X own0 (.Expr (.Call (.Attribute o "append" apos) [e] [] cpos) pos :: rest) sl hp Nx Rt := by
  refine pss_imp (pss_cons (ps_expr hm hs) hr) fun D σ H ⟨Z, B, z, S, T, k, r⟩ => ⟨Z, B, S, T, fun v B1 H1 m1 S1 q1 => ?_⟩
  have q1' : v = .ref a := q1
  subst q1'
  obtain ⟨u, hu, us, rfl, ur⟩ := S1.at hj0
  refine ⟨Or.inl ⟨rfl, us, SqL.of hu⟩, Z, B1, S1, T.mono m1, fun w B2 H2 m2 S2 q2 => ?_⟩
  obtain ⟨u2, hu2, us2, rfl, ur2⟩ := S2.at hj
  refine ⟨a, us2, w, rfl, rfl, hu2, ?_, ?_⟩
  · rw [ur2.length]; exact Nat.lt_of_lt_of_le hz (by decide)
  · have S3 := S2.write hj (o := .lst (us2 ++ [w])) (mo := oL (ds ++ [d])) ⟨_, rfl, ur2.append (.cons q2 .nil)⟩
    exact ⟨Z, B2, z, S3, T.mono (m1.trans m2), fun σ' B' H' s h m => k σ' B' H' s h (m1.trans (m2.trans m)), fun v B' H' h m => r v B' H' h (m1.trans (m2.trans m))⟩
end

/-! ### defs -/
/-- a promise: y whatever it is asked for; its arguments, what it owns while it runs, what it asks, what it promises -/
def spOf {γ : Type} (As : γ → List MA) (hpf : γ → List Cell) (pre : γ → Prop) (post : γ → RtP) : Sp := fun vs H Q _ => ∃ (y : γ) (B : Hp), pre y ∧ All2 B vs (As y) ∧ Sat ⟨B, H, (hpf y).map (·.a)⟩ B H (hpf y) ∧
  ∀ v B' H' hp', Sat ⟨B, H, (hpf y).map (·.a)⟩ B' H' hp' → post y v B' hp' → Q v H'
/-- .. of a def that owns nothing -/
abbrev spP {γ : Type} (As : γ → List MA) (pre : γ → Prop) (R : γ → MA) : Sp := spOf As (fun _ => []) pre fun y v B hp' => hp' = [] ∧ (R y).p v B
section
variable {P : Program} {w : World} {K : PySem.W.Frag} {mg : Str → Option Value} {base : Heap}
theorem start_satS {B : Hp} {vs : List V} {As : List MA} (h : All2 B vs As) (N : List Str) : SatS B (L2.start N vs) (As.map some ++ List.replicate (N.length - As.length) none) := by
  have hl := Paired.length h
  refine ⟨by simp [L2.start, hl], fun i A e => ?_⟩
  by_cases hi : i < As.length
  · rw [List.getElem?_append_left (by simpa using hi), List.getElem?_map] at e
    have : ∀ {vs : List V} {As : List MA} {i : Nat} {A : MA}, All2 B vs As → As[i]? = some A → ∃ v, vs[i]? = some v ∧ A.p v B := by
      intro vs As i A h
      induction h generalizing i with
      | nil => intro h1; simp at h1
      | cons h1 _ ih =>
        intro h2
        cases i with
        | zero => simp at h2; subst h2; exact ⟨_, rfl, h1⟩
        | succ i => exact ih (by simpa using h2)
    cases q : As[i]? with
    | none => rw [q] at e; cases e
    | some C =>
      rw [q] at e
      have e' : C = A := by simpa using e
      subst e'
      obtain ⟨v, h1, h2⟩ := this h q
      refine ⟨v, ?_, h2⟩
      unfold L2.start
      rw [List.getElem?_append_left (by simp [hl, hi]), List.getElem?_map, h1] <;> rfl
  · rw [List.getElem?_append_right (by simpa using hi)] at e
    rw [List.getElem?_replicate] at e
    split at e <;> cases e
/-- THE RULE for a def: its body from its arguments -/
theorem ok_ds {γ : Type} {x qual : Str} {params : Arguments} {body : List Stmt} {scope : Scope} {dvs : List V} {kws : List (Str × V)} {f : Addr} {fd : FuncData} {N ps : List Str} {k : Nat} (F : FunD K x qual params body scope dvs kws f fd) (S : FnScope N ps scope)
    (As : γ → List MA) (hpf : γ → List Cell) (pre : γ → Prop) (post : γ → RtP) (hlen : ∀ y, (As y).length = ps.length)
    (hbody : ∀ y, pre y → ∀ (cdv : Value) (A : Around) (outer : List Env) (s : Shared) (H : Hp) (E : XK), Room k (A.deeper (envOfC qual scope s.heap.objs.size f cdv)) →
      DSs (cxOf CX0 P w K mg base N qual scope f cdv A outer s H E).nox ((hpf y).map (·.a)) body ((As y).map some ++ List.replicate (N.length - (As y).length) none) (hpf y) (fun _ hp' => ∀ B, post y .non B hp') (post y)) :
    FnOk P w K mg base CX0 (k + 1) f fd ps (spOf As hpf pre post) := by
  refine F.ok S (fun vs H Q E ⟨y, B, _, h, _⟩ => by rw [Paired.length h, hlen y]) fun cdv A outer s H vs Q E hr ⟨y, B, hy, ha, hS, hq⟩ => ?_
  refine ⟨_, (hbody y hy cdv A outer s H E hr).nox, ⟨B, H, (hpf y).map (·.a)⟩, B, rfl, hS, start_satS ha N, ?_, ?_⟩
  · exact fun σ' B' H' sl' hp' m n S' T' => hq .non B' H' hp' S' (n B')
  · exact fun v B' H' hp' m S' q => hq v B' H' hp' S' q
end
section
variable {X : Cx} {sl : SL} {hp hp1 hp2 : List Cell} {A : MA} {e : Expr} {es : List Expr} {pos p apos : Pos} {x m : Str} {k j : Nat} {dvs : List V} {γ : Type} {As : γ → List MA} {hpf : γ → List Cell} {pre : γ → Prop} {post : γ → RtP}
theorem tD_call {Bs : List MA} {fr hq : List Cell} (y : γ) (hy : pre y) (hAs : ∀ B vs, All2 B vs Bs → All2 B (vs ++ dvs) (As y)) (hpost : ∀ v B hp', post y v B hp' → A.p v B ∧ hp' = hq) {σ : L2.St} {H : Hp} {Q : VK} (h : tDE sl hp A (hq ++ fr) σ H Q) :
    tCall (spOf As hpf pre post) dvs E0 (tDA sl hp Bs (hpf y ++ fr)) σ H Q := by
  obtain ⟨Z, B, S, T, k⟩ := h
  refine ⟨Z, B, S, T, fun vs B1 H1 m1 S1 q1 => ⟨y, B1, hy, hAs _ _ q1, S1.enter, fun v B' H' hp' S' q => ?_⟩⟩
  obtain ⟨q2, rfl⟩ := hpost v B' hp' q
  exact k v B' H' (m1.trans S'.b0) (S1.call S') q2
theorem de_call {Bs : List MA} {fr hq : List Cell} (c : C8.Cal X.prog X.w X.K X.mg X.base k x (spOf As hpf pre post) dvs) (hr : Room j X.A) (hk : k ≤ j) (y : γ) (hy : pre y) (ha : DA X (e :: es) sl hp Bs (hpf y ++ fr)) (hAs : ∀ B vs, All2 B vs Bs → All2 B (vs ++ dvs) (As y))
    (hpost : ∀ v B hp', post y v B hp' → A.p v B ∧ hp' = hq) (hg : Gl X x := by rfl) (hdb : (x == ("__debug__" : Str)) = false := by decide) (he : starEach (e :: es) X.env = (false, eval e X.env) :: starEach es X.env := by rfl) (hpl : (backTo pos (starEach es X.env)).any (·.1) = false := by rfl) :
    DE X (.Call (.Name x p) (e :: es) [] pos) sl hp A (hq ++ fr) :=
  pe_imp (C8.pe_c c hr hk hg ha hdb he hpl) fun _ _ _ h => tD_call y hy hAs hpost h
/-- f(e, ..), f a def that owns nothing -/
theorem de_callP {R : γ → MA} {A : MA} (c : C8.Cal X.prog X.w X.K X.mg X.base k x (spP As pre R) []) (hr : Room j X.A) (hk : k ≤ j) (y : γ) (hy : pre y) (ha : DA X (e :: es) sl hp (As y) hp1) (hg : Gl X x := by rfl) (hdb : (x == ("__debug__" : Str)) = false := by decide)
    (he : starEach (e :: es) X.env = (false, eval e X.env) :: starEach es X.env := by rfl) (hpl : (backTo pos (starEach es X.env)).any (·.1) = false := by rfl) (hA : R y = A := by rfl) : DE X (.Call (.Name x p) (e :: es) [] pos) sl hp A hp1 := by
  subst hA
  exact pe_imp (C8.pe_c c hr hk hg ha hdb he hpl) fun _ _ _ h => tD_call (hpf := fun _ => []) (fr := hp1) (hq := []) y hy (fun B vs q => by rw [List.append_nil]; exact q) (fun v B hp' q => ⟨q.2, q.1⟩) h
theorem pe_c0 {sp : Sp} (c : C8.Cal X.prog X.w X.K X.mg X.base k x sp []) (hr : Room j X.A) (hk : k ≤ j) (hg : Gl X x) (hdb : (x == ("__debug__" : Str)) = false := by decide) : PE X (.Call (.Name x p) [] [] pos) (tCall sp [] E0 tNil) := by
  obtain ⟨f, fd, ps, ds, F, hm, kp, b, d⟩ := c.ex
  exact pe_call0 F (hr.mono hk) hg hm kp b d pass0 hdb
theorem de_callP0 {R : γ → MA} {A : MA} (c : C8.Cal X.prog X.w X.K X.mg X.base k x (spP As pre R) []) (hr : Room j X.A) (hk : k ≤ j) (y : γ) (hy : pre y) (ha : As y = []) (hg : Gl X x := by rfl) (hdb : (x == ("__debug__" : Str)) = false := by decide) (hA : R y = A := by rfl) : DE X (.Call (.Name x p) [] [] pos) sl hp A hp := by
  subst hA
  exact pe_imp (pe_c0 c hr hk hg hdb) fun _ _ _ ⟨Z, B, S, T, k⟩ => ⟨y, B, hy, by rw [ha]; exact .nil, Sat.enter (hp := []) (fr := hp) S, fun v B' H' hp' S' q => by
    obtain ⟨q1, q2⟩ := q
    subst q1
    exact k v B' H' S'.b0 (Sat.call (hp := []) (fr := hp) S S') q2⟩
/-- o.m(e, ..), o.m() of an instance of the class at C that all may read -/
def insA (C : Addr) (P : (List (Str × V)) → Hp → Prop) : V → Hp → Prop := fun v B => ∃ a dx fs, v = .ref a ∧ B a = some (.ins C dx fs) ∧ P fs B
theorem de_meth {pl : Sem Bool} {C : Addr} {R : γ → MA} {A : MA} {o : Expr} {Bs : List MA} {O : MA} (c : C8.Met X.prog X.w X.K X.mg X.base k C m (spP As pre R) dvs) (hr : Room j X.A) (hk : k ≤ j) (y : γ) (hy : pre y) (ho : DE X o sl hp O hp1) (hO : ∀ v B, O.p v B → ∃ a dx fs, v = .ref a ∧ B a = some (.ins C dx fs) ∧ fs.lookup m = none)
    (ha : DA X (e :: es) sl hp1 Bs hp2) (hAs : ∀ B v vs, O.p v B → All2 B vs Bs → All2 B (v :: (vs ++ dvs)) (As y))
    (hst : starEach (e :: es) X.env = (false, eval e X.env) :: starEach es X.env := by rfl) (hpl : (backTo pos (starEach es X.env)).any (·.1) = false := by rfl)
    (ht : eval (.Call (.Attribute o m apos) (e :: es) [] pos) X.env = (do
      let ov ← eval o X.env
      standAt apos.atName
      let (f, first) ← holding [ov] (getMethod ov m pl)
      callWith pos f first (backTo pos (starEach (e :: es) X.env)) (backToKw pos (keywordEach [] X.env))) := by rfl) (hA : R y = A := by rfl) :
    DE X (.Call (.Attribute o m apos) (e :: es) [] pos) sl hp A hp2 := by
  subst hA
  exact pe_imp (C8.pe_mt (pl := pl) c hr hk ho ha hst hpl ht) fun _ _ _ ⟨Z, B, S, T, k⟩ => ⟨Z, B, S, T, fun v B1 H1 m1 S1 q1 => by
    obtain ⟨a, dx, fs, rfl, h1, h2⟩ := hO v B1 q1
    refine ⟨a, dx, fs, rfl, S1.bh _ _ h1, h2, Z, B1, S1, T.mono m1, fun vs B2 H2 m2 S2 q2 => ⟨y, B2, hy, hAs _ _ _ (O.mono m2 q1) q2, Sat.enter (hp := []) (fr := hp2) S2, fun v B' H' hp' S' q => ?_⟩⟩
    obtain ⟨q3, q4⟩ := q
    subst q3
    exact k v B' H' (m1.trans (m2.trans S'.b0)) (Sat.call (hp := []) (fr := hp2) S2 S') q4⟩
theorem de_meth0 {pl : Sem Bool} {C : Addr} {R : γ → MA} {A : MA} {o : Expr} {O : MA} (c : C8.Met X.prog X.w X.K X.mg X.base k C m (spP As pre R) dvs) (hr : Room j X.A) (hk : k ≤ j) (y : γ) (hy : pre y) (ho : DE X o sl hp O hp1) (hO : ∀ v B, O.p v B → ∃ a dx fs, v = .ref a ∧ B a = some (.ins C dx fs) ∧ fs.lookup m = none)
    (hAs : ∀ B v, O.p v B → All2 B (v :: dvs) (As y))
    (ht : eval (.Call (.Attribute o m apos) [] [] pos) X.env = (do
      let ov ← eval o X.env
      standAt apos.atName
      let (f, first) ← holding [ov] (getMethod ov m pl)
      callWith pos f first (backTo pos (starEach [] X.env)) (backToKw pos (keywordEach [] X.env))) := by rfl) (hA : R y = A := by rfl) :
    DE X (.Call (.Attribute o m apos) [] [] pos) sl hp A hp1 := by
  subst hA
  exact pe_imp (C8.pe_mt0 (pl := pl) c hr hk ho ht) fun _ _ _ ⟨Z, B, S, T, k⟩ => ⟨Z, B, S, T, fun v B1 H1 m1 S1 q1 => by
    obtain ⟨a, dx, fs, rfl, h1, h2⟩ := hO v B1 q1
    refine ⟨a, dx, fs, rfl, S1.bh _ _ h1, h2, y, B1, hy, hAs _ _ q1, Sat.enter (hp := []) (fr := hp1) S1, fun v B' H' hp' S' q => ?_⟩
    obtain ⟨q3, q4⟩ := q
    subst q3
    exact k v B' H' (m1.trans S'.b0) (Sat.call (hp := []) (fr := hp1) S1 S') q4⟩
end
end PK
end
section
set_option Elab.async false
set_option linter.all false
set_option maxRecDepth 100000
set_option maxHeartbeats 2000000
/-! Rules that the hand layer lacks: enumerate of a tuple; zip of a tuple and a list. -/
namespace PK
open PySem PySem.Spec PyProof.Rows L2

theorem meets_enumerate_newT (l : Addr) (items : Array Value) (n : Nat) (dct : Option Addr) (sl : Array (Option Value)) :
    Meets (Builtin.«enumerate.__new__» ⟨[.type "enumerate", .ref l], []⟩) (fun _ R s => s.heap.get? l = some { cls := .type "tuple", dict := dct, data := .seq items n, slots := sl } ∧
      R (.ok (.ret (.ref (s.heap.push { cls := .type "tuple_iterator", data := .fields #[.ref l, .int 0 0] }).objs.size)))
        { s with heap := (s.heap.push { cls := .type "tuple_iterator", data := .fields #[.ref l, .int 0 0] }).push { cls := .type "enumerate", data := .fields #[.none, .bool false, .ref s.heap.objs.size, rawInt 0, .none, .none] } }) :=
  .of_wp fun prog w A R s h => by
    obtain ⟨hp, g, d, tk, os⟩ := s; obtain ⟨hl, h⟩ := h
    have hsub := sub_enumerate
    have hL : Heap.IsTuple (Shared.heap ⟨hp, g, d, tk, os⟩) l items := ⟨_, hl, rfl, n, rfl⟩
    wp_walk using AutoSeq1.wpAny_loadPart' hl
    refine wpAny_stack_any fun st => wpAny_pure ?_
    split
    · rename_i c _ _ _ _ _
      cases (c == Value.type "enumerate")
      · wp_walk using AutoSeq1.wpAny_loadPart' hl, wpAny_pyIter_tuple hL
        exact ⟨_, rfl, h⟩
      · wp_walk using AutoSeq1.wpAny_loadPart' hl, wpAny_pyIter_tuple hL
        exact ⟨_, rfl, h⟩
    · wp_walk using AutoSeq1.wpAny_loadPart' hl, wpAny_pyIter_tuple hL
      exact ⟨_, rfl, h⟩
section
variable {prog : Program} {w : World} {A : Around} {E : Value → Shared → Prop} {s : Shared}
theorem call_enumerate_tuple {l : Addr} {items : Array Value} {Q : Value → Shared → Prop} (hL : s.heap.IsTuple l items)
    (h : ∀ h', IsEnum h' (s.heap.objs.size + 1) s.heap.objs.size 0 .none → h'.IsTupleIter s.heap.objs.size l 0 → h'.objs.size = s.heap.objs.size + 2 →
      (∀ b o, s.heap.get? b = some o → h'.get? b = some o) → Q (.ref (s.heap.objs.size + 1)) { s with heap := h' }) :
    wpAny (model prog w) A (call (.type "enumerate") [.ref l]) Q E s := by
  obtain ⟨⟨c, dct, dt, sl⟩, hl, hc, n, hd⟩ := hL
  replace hc : c = .type "tuple" := hc
  replace hd : dt = .seq items n := hd
  subst hc hd
  refine callType_new F.called_enumerate (by decide) (F.typeCall_enumerate_1 _) (F.newCall_enumerate_1 _) (fun obj => F.args_object_init_2 obj _) F.entry_enumerate_new
    (meets_enumerate_newT l items n dct sl) ⟨hl, ?_⟩
  have hz : (s.heap.push { cls := .type "tuple_iterator", data := .fields #[.ref l, .int 0 0] }).objs.size = s.heap.objs.size + 1 := Heap.size_push ..
  show _ ∧ _
  rw [hz]
  have he : IsEnum ((s.heap.push { cls := .type "tuple_iterator", data := .fields #[.ref l, .int 0 0] }).push
      { cls := .type "enumerate", data := .fields #[.none, .bool false, .ref s.heap.objs.size, rawInt 0, .none, .none] }) (s.heap.objs.size + 1) s.heap.objs.size 0 .none := by
    have := Heap.get?_push_size (s.heap.push { cls := .type "tuple_iterator", data := .fields #[.ref l, .int 0 0] })
      (o := { cls := .type "enumerate", data := .fields #[.none, .bool false, .ref s.heap.objs.size, rawInt 0, .none, .none] }) rfl
    rw [hz] at this; exact this
  refine ⟨⟨_, he, rfl⟩, h _ he ⟨_, Heap.get?_push_of_some _ (Heap.get?_push_size _ rfl), rfl, rfl⟩ (by rw [Heap.size_push, hz]) fun b o x => Heap.get?_push_of_some _ (Heap.get?_push_of_some _ x)⟩
end
/-- the tuple at a, each item in a new pair -/
def IteT (K : PySem.W.Frag) (a : Addr) : It :=
  ⟨fun i H => ∃ (xs : List V) (x : V), SqT K H a xs ∧ xs[i]? = some x, fun i H v H' => ∃ T x, v = .ref T ∧ H T = none ∧ H' = upd H T (.tup [.int (i : Nat), x]) ∧ ∀ xs, SqT K H a xs → xs[i]? = some x, fun i H => ∃ xs : List V, SqT K H a xs ∧ xs.length ≤ i⟩
theorem turn_enumT {P : Program} {w : World} {K : PySem.W.Frag} {elts : List Expr} {kk : Nat} {tpos : Pos} (a e it : Addr) (hae : a ≠ e) (hai : a ≠ it) :
    Turn P w K (.Tuple elts kk tpos) (IteT K a) [e, it] e (fun i h => (∃ old, IsEnum h e it ((i : Nat) : Int) old) ∧ h.IsTupleIter it a i ∧ e ≠ it) where
  mem := by simp
  obj := fun i h st b hb => by
    obtain ⟨⟨old, he⟩, ⟨o, ho, hc, hd⟩, _⟩ := st
    have e' : b = e ∨ b = it := by simpa using hb
    rcases e' with z | z
    · rw [z]; exact ⟨_, he, fun v q => nomatch q⟩
    · rw [z]; exact ⟨o, ho, fun v q => by rw [hd] at q; cases q⟩
  keep := fun i h h' st k => let ⟨⟨old, he⟩, hi, hne⟩ := st; ⟨⟨old, k e (by simp) _ he⟩, hi.at fun o q => k it (by simp) o q, hne⟩
  item := by
    intro X hP hw hK hc i pins s σ H E I hf st hg
    subst hP hw hK
    obtain ⟨⟨old, he⟩, hit, hne⟩ := st
    obtain ⟨xs, x, hq, hx⟩ := hg
    obtain ⟨its, rv, p, _⟩ := I.tuple hq
    obtain ⟨u, hu, ru⟩ := rv.get hx
    have hel : e < s.heap.objs.size := Heap.lt_size he
    have hil : it < s.heap.objs.size := by obtain ⟨_, q, _⟩ := hit; exact Heap.lt_size q
    have hh : X.A.in1.handled = none := I.ok.hd hc
    have hlt : i < its.toArray.size := by
      have := (List.getElem?_eq_some_iff.mp hu).1
      simpa using this
    refine wpAny_pyNext_enum_itemC (Draws.tuple hh it a hai its.toArray) he ⟨hit, p⟩ hlt hne (by simp [hne]; exact fun z => hae z.symm) fun x' h' tk hP ho hst' hT hsz hk => ?_
    have hxu : x' = u := by
      have : its.toArray[i]? = some u := by simpa using hu
      rw [this] at hP; exact (Option.some.inj hP).symm
    subst hxu
    refine ⟨_, rfl, wpAny_letOwnedTupleGo_enum (s := { s with heap := h', toks := tk + 1 }) ho fun h'' he' sb => ?_⟩
    have hT2 : h''.get? s.heap.objs.size = some { cls := .type "tuple", data := .seq #[.int i tk, x'] } := (sb.2 _ (Nat.ne_of_gt hel)).trans hT
    have new : ObjOk X.prog X.w (upd H s.heap.objs.size (.tup [.int (i : Nat), x])) h'' s.heap.objs.size (.tup [.int (i : Nat), x]) :=
      ⟨by show 2 ≤ sizeLine; decide, [.int i tk, x'], .cons ⟨_, rfl⟩ (.cons ru .nil), ⟨_, hT2, rfl, _, rfl⟩⟩
    have I1 : Inv X pins σ (upd H s.heap.objs.size (.tup [.int (i : Nat), x])) { s with heap := h'', toks := tk + 1 } :=
      I.turnedNew (ch := [e, it]) (fun b ob hb q => (sb.2 b (fun z => hb (by simp [z]))).trans (hk b ob (fun z => hb (by simp [z])) (fun z => hb (by simp [z])) q)) hf (Nat.le_refl _) new
    refine ⟨.ref s.heap.objs.size, _, I1, rfl, ⟨_, x, rfl, I.hok.fresh (Nat.le_refl _), rfl, fun ys hy => by rw [I.tuple_inj hy hq]; exact hx⟩, ⟨⟨x', ?_⟩, hst'.1.at fun o q => (sb.2 it (Ne.symm hne)).trans q, hne⟩, fun b hb => ?_⟩
    · have e1 : ((i + 1 : Nat) : Int) = (i : Int) + 1 := by omega
      rw [e1]; exact he'
    · have hb' : b < s.heap.objs.size := by
        have e' : b = e ∨ b = it := by simpa using hb
        rcases e' with z | z
        · rw [z]; exact hel
        · rw [z]; exact hil
      rw [upd_ne (Nat.ne_of_lt hb')]
      exact (hf b hb).1
  done := by
    intro X hP hw hK hc i pins s σ H E I hf st hg
    subst hP hw hK
    obtain ⟨⟨old, he⟩, hit, hne⟩ := st
    obtain ⟨xs, hq, hx⟩ := hg
    obtain ⟨its, rv, p, _⟩ := I.tuple hq
    obtain ⟨f0, f1, f2, f3, f4, f5⟩ := hf it (by simp)
    have hl := rv.length
    have hh : X.A.in1.handled = none := I.ok.hd hc
    have hend : its.toArray[i]? = none := by simp; omega
    -- what the iterator draws from here: nothing
    have D : Draws X.prog X.w X.A.in1 it [it, a] 0 (fun _ _ => False) (fun _ h => h.IsTupleIter it a i ∧ h.IsTuple a its.toArray) :=
      ⟨fun _ _ st => let ⟨o, ho, _⟩ := st.1; ⟨o, ho⟩, fun _ _ _ st hk => ⟨st.1.at fun o e => hk it (by simp) o e, st.2.at fun o e => hk a (by simp) o e⟩, fun j s Q E hj => absurd hj (Nat.not_lt_zero _),
        fun s Q E st hE => wpAny_nextOf_tuple_end hh st.1 st.2 hend hE⟩
    exact wpAny_pyNext_enum_endD D he ⟨hit, p⟩ fun h' eb => ⟨rfl, I.turned (t' := s.toks) (fun b o hb q => eb b o hb q) f0 f1 f3 f4 f5⟩
  self := fun A i s Q E st h => let ⟨⟨_, he⟩, _⟩ := st; wpAny_pyIter_enum he h
def iEnumT (K : PySem.W.Frag) (ta : TA) : TI := fun σ H R => ta σ H fun vs H1 => ∃ a xs, vs = [.ref a] ∧ SqT K H1 a xs ∧ R (IteT K a) H1
theorem pi_enumT {X : Cx} {e : Expr} {ta : TA} {p pos tpos : Pos} {elts : List Expr} {kk : Nat} (hg : Gl X "enumerate") (hm : X.mg "enumerate" = none) (ha : PA X [e] ta) (hs : starEach [e] X.env = [(false, eval e X.env)] := by rfl) :
    PI X (.Tuple elts kk tpos) (.Call (.Name "enumerate" p) [e] [] pos) (iEnumT X.K ta) := by
  refine ⟨fun pins s σ H R I h => ?_⟩
  refine Call_ (ld_blt I hg hm boot_enumerate (PyProof.Rows.callWith_type1 (thn (ha.run pos pins s σ H _ I h) fun us s1 ⟨vs, H1, I1, r1, q1⟩ => ?_) hs rfl))
  obtain ⟨a, xs, ex, hq, q⟩ := q1
  subst ex
  cases r1 with
  | cons r rr =>
    cases rr
    cases r
    obtain ⟨its, rv, p', _⟩ := I1.tuple hq
    have hal : a < s1.heap.objs.size := by obtain ⟨o1, ho1, _⟩ := id p'; exact Heap.lt_size ho1
    refine call_enumerate_tuple (show s1.heap.IsTuple a its.toArray from p') fun h' he hit hsz hk => wpAny_pyIter_enum he ?_
    have I2 : Inv X pins σ H1 { s1 with heap := h' } := I1.kept (t' := s1.toks) hk
    refine ⟨s1.heap.objs.size + 1, [s1.heap.objs.size + 1, s1.heap.objs.size], _, _, H1, rfl, I2, turn_enumT a (s1.heap.objs.size + 1) s1.heap.objs.size (Nat.ne_of_lt (Nat.lt_succ_of_lt hal)) (Nat.ne_of_lt hal), ⟨⟨.none, he⟩, hit, Nat.succ_ne_self _⟩, fun b hb => ?_, q⟩
    have e' : b = s1.heap.objs.size + 1 ∨ b = s1.heap.objs.size := by simpa using hb
    have hle : s1.heap.objs.size ≤ b := by
      rcases e' with z | z
      · rw [z]; exact Nat.le_add_right _ _
      · rw [z]; exact Nat.le_refl _
    exact I1.fpOk hle (I1.hok.fresh hle)
end PK
end
section
set_option Elab.async false
set_option linter.all false
set_option maxRecDepth 100000
set_option maxHeartbeats 2000000
namespace PK
open PySem PySem.Spec PyProof.Rows L2
/-- the tuple at a and the list at b as they stand at each turn, the items in new pairs -/
def ItzTL (K : PySem.W.Frag) (a b : Addr) : It :=
  ⟨fun i H => ∃ (xs ys : List V) (x y : V), SqT K H a xs ∧ SqL K H b ys ∧ xs[i]? = some x ∧ ys[i]? = some y,
    fun i H v H' => ∃ T x y, v = .ref T ∧ H T = none ∧ H' = upd H T (.tup [x, y]) ∧ (∀ xs, SqT K H a xs → xs[i]? = some x) ∧ ∀ ys, SqL K H b ys → ys[i]? = some y,
    fun i H => ∃ xs ys : List V, SqT K H a xs ∧ SqL K H b ys ∧ (xs.length ≤ i ∨ ys.length ≤ i)⟩
theorem turn_zipTL {P : Program} {w : World} {K : PySem.W.Frag} {elts : List Expr} {kk : Nat} {tpos : Pos} {a b z TI TO i1 i2 : Addr} (D : ZipSep2 z TI TO i1 i2 [i1, a] [i2, b]) (hai : a ≠ i1) (hbi : b ≠ i2) :
    Turn P w K (.Tuple elts kk tpos) (ItzTL K a b) [z, TI, TO, i1, i2] z (fun i h => IsZip h z TI TO .none ∧ IsPair h TI (.ref i1) (.ref i2) ∧ (∃ x y, IsPair h TO x y) ∧ h.IsTupleIter i1 a i ∧ h.IsListIter i2 b i) where
  mem := by simp
  obj := fun i h st c hc => by
    obtain ⟨hz, hTI, ⟨x, y, hTO⟩, ⟨o1, e1, _, d1⟩, ⟨o2, e2, _, d2⟩⟩ := st
    have e' : c = z ∨ c = TI ∨ c = TO ∨ c = i1 ∨ c = i2 := by simpa using hc
    rcases e' with q | q | q | q | q
    · rw [q]; exact ⟨_, hz, fun v q => nomatch q⟩
    · rw [q]; exact ⟨_, hTI, fun v q => nomatch q⟩
    · rw [q]; exact ⟨_, hTO, fun v q => nomatch q⟩
    · rw [q]; exact ⟨o1, e1, fun v q => by rw [d1] at q; cases q⟩
    · rw [q]; exact ⟨o2, e2, fun v q => by rw [d2] at q; cases q⟩
  keep := fun i h h' st k => by
    obtain ⟨hz, hTI, ⟨x, y, hTO⟩, h1, h2⟩ := st
    exact ⟨k z (by simp) _ hz, k TI (by simp) _ hTI, ⟨x, y, k TO (by simp) _ hTO⟩, h1.at fun o q => k i1 (by simp) o q, h2.at fun o q => k i2 (by simp) o q⟩
  item := by
    intro X hP hw hK hc i pins s σ H E I hf st hg
    subst hP hw hK
    obtain ⟨hz, hTI, ⟨x0, y0, hTO⟩, h1, h2⟩ := st
    obtain ⟨xs, ys, x, y, hqx, hqy, hx, hy⟩ := hg
    obtain ⟨its, rv, p, _⟩ := I.tuple hqx
    obtain ⟨its2, rv2, p2, _⟩ := I.list hqy
    obtain ⟨u, hu, ru⟩ := rv.get hx
    obtain ⟨u2, hu2, ru2⟩ := rv2.get hy
    have hzl : z < s.heap.objs.size := Heap.lt_size hz
    have hh : X.A.in1.handled = none := I.ok.hd hc
    have lt1 : i < its.toArray.size := by
      have := (List.getElem?_eq_some_iff.mp hu).1
      simpa using this
    have lt2 : i < its2.toArray.size := by
      have := (List.getElem?_eq_some_iff.mp hu2).1
      simpa using this
    refine wpAny_pyNext_zipD2_item D (Draws.tuple hh i1 a hai its.toArray) (Draws.list hh i2 b hbi its2.toArray) hz hTI hTO ⟨h1, p⟩ ⟨h2, p2.isList⟩ lt1 lt2 fun x' y' h' tk q1 q2 z' TO' st1 st2 hT hsz hk => ?_
    have ex : x' = u := by
      have : its.toArray[i]? = some u := by simpa using hu
      rw [this] at q1; exact (Option.some.inj q1).symm
    have ey : y' = u2 := by
      have : its2.toArray[i]? = some u2 := by simpa using hu2
      rw [this] at q2; exact (Option.some.inj q2).symm
    subst ex ey
    refine ⟨_, rfl, wpAny_letOwnedTupleGo_zip (s := { s with heap := h', toks := tk }) z' fun h'' z'' sb => ?_⟩
    have hT2 : h''.get? s.heap.objs.size = some { cls := .type "tuple", data := .seq #[x', y'] } := (sb.2 _ (Nat.ne_of_gt hzl)).trans hT
    have new : ObjOk X.prog X.w (upd H s.heap.objs.size (.tup [x, y])) h'' s.heap.objs.size (.tup [x, y]) :=
      ⟨by show 2 ≤ sizeLine; decide, [x', y'], .cons ru (.cons ru2 .nil), ⟨_, hT2, rfl, _, rfl⟩⟩
    have I1 : Inv X pins σ (upd H s.heap.objs.size (.tup [x, y])) { s with heap := h'', toks := tk } :=
      I.turnedNew (t' := tk) (ch := [z, TI, TO, i1, i2]) (fun c o hb q => (sb.2 c (fun q' => hb (by simp [q']))).trans (hk c o (fun q' => hb (by simp [q'])) (fun q' => hb (by simp [q'])) (fun q' => hb (by simp [q'])) (fun q' => hb (by simp [q'])) q)) hf (Nat.le_refl _) new
    refine ⟨.ref s.heap.objs.size, _, I1, rfl, ⟨_, x, y, rfl, I.hok.fresh (Nat.le_refl _), rfl, fun l hl => by rw [I.tuple_inj hl hqx]; exact hx, fun l hl => by rw [I.list_inj hl hqy]; exact hy⟩, ⟨z'', ?_, ⟨x', y', ?_⟩, ?_, ?_⟩, fun c hcm => ?_⟩
    · exact (sb.2 _ D.TIz).trans (hk _ _ D.TIz D.TITO D.TIi1 D.TIi2 hTI)
    · exact (sb.2 _ D.TOz).trans TO'
    · exact st1.1.at fun o q => (sb.2 _ (Ne.symm D.zi1)).trans q
    · exact st2.1.at fun o q => (sb.2 _ (Ne.symm D.zi2)).trans q
    · have hlt : c < s.heap.objs.size := by
        have e' : c = z ∨ c = TI ∨ c = TO ∨ c = i1 ∨ c = i2 := by simpa using hcm
        rcases e' with q | q | q | q | q
        · rw [q]; exact hzl
        · rw [q]; exact Heap.lt_size hTI
        · rw [q]; exact Heap.lt_size hTO
        · rw [q]; obtain ⟨_, e1, _⟩ := h1; exact Heap.lt_size e1
        · rw [q]; obtain ⟨_, e2, _⟩ := h2; exact Heap.lt_size e2
      rw [upd_ne (Nat.ne_of_lt hlt)]
      exact (hf c hcm).1
  done := by
    intro X hP hw hK hc i pins s σ H E I hf st hg
    subst hP hw hK
    obtain ⟨hz, hTI, ⟨x0, y0, hTO⟩, h1, h2⟩ := st
    obtain ⟨xs, ys, hqx, hqy, hend⟩ := hg
    obtain ⟨its, rv, p, _⟩ := I.tuple hqx
    obtain ⟨its2, rv2, p2, _⟩ := I.list hqy
    have l1 := rv.length
    have l2 := rv2.length
    have hh : X.A.in1.handled = none := I.ok.hd hc
    -- from here each draws what is left
    have D1 : Draws X.prog X.w X.A.in1 i1 [i1, a] (its.toArray.size - i) (fun j v => its.toArray[i + j]? = some v) (fun j h => h.IsTupleIter i1 a (i + j) ∧ h.IsTuple a its.toArray) :=
      ⟨fun _ _ st => let ⟨o, ho, _⟩ := st.1; ⟨o, ho⟩, fun _ _ _ st hk => ⟨st.1.at fun o e => hk i1 (by simp) o e, st.2.at fun o e => hk a (by simp) o e⟩,
        fun j s Q E hj st hQ => by
          have hb : i + j < its.toArray.size := by omega
          exact wpAny_nextOf_tuple_item st.1 st.2 (x := its.toArray[i + j]) (by simp) fun h' hit' hs' => hQ _ h' s.toks (by simp) ⟨hit', st.2.extBut hs'.extBut hai⟩ hs',
        fun s Q E st hE => wpAny_nextOf_tuple_end hh st.1 st.2 (by simp; omega) hE⟩
    have DL := Draws.list (prog := X.prog) (w := X.w) hh i2 b hbi its2.toArray
    have D2 : Draws X.prog X.w X.A.in1 i2 [i2, b] (its2.toArray.size - i) (fun j v => its2.toArray[i + j]? = some v) (fun j h => h.IsListIter i2 b (i + j) ∧ h.IsList b its2.toArray) :=
      ⟨fun _ _ st => let ⟨o, ho, _⟩ := st.1; ⟨o, ho⟩, fun _ _ _ st hk => ⟨st.1.at fun o e => hk i2 (by simp) o e, st.2.at fun o e => hk b (by simp) o e⟩,
        fun j s Q E hj st hQ => DL.item (i + j) s Q E (by omega) st fun x h' tk q st' hs' => hQ x h' tk q st' hs',
        fun s Q E st hE => wpAny_nextOf_list_end hh st.1 st.2 (by simp; omega) hE⟩
    refine wpAny_pyNext_zipD2_end (i := 0) D D1 D2 hz hTI hTO ⟨h1, p⟩ ⟨h2, p2.isList⟩ (Nat.zero_le _) (Nat.zero_le _) ?_ fun h' tk hk => ⟨rfl, I.turnedL (t' := tk) (ch := [z, TI, TO, i1, i2]) (fun c o hb q =>
      hk c o (fun q' => hb (by simp [q'])) (fun q' => hb (by simp [q'])) (fun q' => hb (by simp [q'])) (fun q' => hb (by simp [q'])) q) hf⟩
    rcases hend with q | q
    · exact .inl (by simp; omega)
    · exact .inr (by simp; omega)
  self := fun A i s Q E st h => wpAny_pyIter_zip st.1 h
def iZipTL (K : PySem.W.Frag) (ta : TA) : TI := fun σ H R => ta σ H fun vs H1 => ∃ a b xs ys, vs = [.ref a, .ref b] ∧ SqT K H1 a xs ∧ SqL K H1 b ys ∧ R (ItzTL K a b) H1
theorem pi_zipTL {X : Cx} {e e2 : Expr} {ta : TA} {p pos tpos : Pos} {elts : List Expr} {kk : Nat} (hg : Gl X "zip") (hm : X.mg "zip" = none) (ha : PA X [e, e2] ta)
    (hs : starEach [e, e2] X.env = (false, eval e X.env) :: starEach [e2] X.env := by rfl) (hpl : (backTo pos (starEach [e2] X.env)).any (·.1) = false := by rfl) :
    PI X (.Tuple elts kk tpos) (.Call (.Name "zip" p) [e, e2] [] pos) (iZipTL X.K ta) := by
  refine ⟨fun pins s σ H R I h => ?_⟩
  refine Call_ (ld_blt I hg hm PyProof.Rows.boot_zip (PyProof.Rows.callWith_type1 (thn (ha.run pos pins s σ H _ I h) fun us s1 ⟨vs, H1, I1, r1, q1⟩ => ?_) hs hpl))
  obtain ⟨a, b, xs, ys, ex, hqx, hqy, q⟩ := q1
  subst ex
  cases r1 with
  | cons r rr =>
    cases rr with
    | cons r' rr =>
      cases rr
      cases r
      cases r'
      have fresh5 : ∀ c, c ∈ [s1.heap.objs.size + 4, s1.heap.objs.size + 2, s1.heap.objs.size + 3, s1.heap.objs.size, s1.heap.objs.size + 1] → FpOk X pins H1 c := fun c hcm => by
        have e' : c = s1.heap.objs.size + 4 ∨ c = s1.heap.objs.size + 2 ∨ c = s1.heap.objs.size + 3 ∨ c = s1.heap.objs.size ∨ c = s1.heap.objs.size + 1 := by simpa using hcm
        have hle : s1.heap.objs.size ≤ c := by
          rcases e' with z | z | z | z | z
          · rw [z]; exact Nat.le_add_right _ _
          · rw [z]; exact Nat.le_add_right _ _
          · rw [z]; exact Nat.le_add_right _ _
          · rw [z]; exact Nat.le_refl _
          · rw [z]; exact Nat.le_add_right _ _
        exact I1.fpOk hle (I1.hok.fresh hle)
      obtain ⟨its, rv, p1, _⟩ := I1.tuple hqx
      obtain ⟨its2, rv2, p2, _⟩ := I1.list hqy
      have la : a < s1.heap.objs.size := by obtain ⟨o1, ho1, _⟩ := id p1; exact Heap.lt_size ho1
      have lb : b < s1.heap.objs.size := p2.lt
      refine zip_begins2 (begins_tuple a its.toArray) (begins_list b its2.toArray) p1 p2.isList fun h' hz hTI hTO h1 h2 hsz hk => wpAny_pyIter_zip hz ?_
      have I2 : Inv X pins σ H1 { s1 with heap := h' } := I1.kept (t' := s1.toks) hk
      exact ⟨s1.heap.objs.size + 4, [s1.heap.objs.size + 4, s1.heap.objs.size + 2, s1.heap.objs.size + 3, s1.heap.objs.size, s1.heap.objs.size + 1], _, _, H1, rfl, I2,
        turn_zipTL (zip_sep2 (fp1 := [a]) (fp2 := [b]) (fun c hc => by rw [List.mem_singleton.mp hc]; exact la) (fun c hc => by rw [List.mem_singleton.mp hc]; exact lb)) (Nat.ne_of_lt la) (Nat.ne_of_lt (Nat.lt_succ_of_lt lb)),
        ⟨hz, hTI, ⟨_, _, hTO⟩, ⟨_, h1, rfl, rfl⟩, ⟨_, h2, rfl, rfl⟩⟩, fresh5, q⟩

/-! ### at the layer -/
section
variable {X : Cx} {e e2 : Expr} {sl : SL} {hp hp1 hp2 : List Cell} {pos p tpos : Pos} {elts : List Expr} {kk : Nat}
theorem di_enumT {xs : List PyData} (hm : X.mg "enumerate" = none) (h : DE X e sl hp (isD (.tuple xs)) hp1) (hg : Gl X "enumerate" := by rfl) (hs : starEach [e] X.env = [(false, eval e X.env)] := by rfl) (hs2 : starEach [e] X.env = (false, eval e X.env) :: starEach [] X.env := by rfl) :
    DI X (.Tuple elts kk tpos) (.Call (.Name "enumerate" p) [e] [] pos) sl hp (xs.zip (List.range xs.length)) (fun q => isD (.tuple [.int ((q.2 : Nat) : Int), q.1])) hp1 := by
  refine ⟨_, pi_enumT hg hm (da_cons h da_nil hs2) hs, fun σ H R ⟨Z, B, S, T, k⟩ => ⟨Z, B, S, T, fun vs B1 H1 m1 S1 q1 => ?_⟩⟩
  obtain ⟨v, rfl, hv⟩ := all2_one q1
  cases hv with
  | tup h1 r1 =>
    rename_i a vs
    have hl := r1.length
    refine ⟨a, vs, rfl, SqT.of (S1.bh _ _ h1), k B1 H1 _ m1 S1 ⟨fun i H hi m _ => ?_, fun H m _ => ?_, fun i x H v H' hx m y => ?_⟩⟩
    · have hi' : i < vs.length := by simp at hi; omega
      exact ⟨vs, vs[i], SqT.of (m _ _ h1), by simp [hi']⟩
    · exact ⟨vs, SqT.of (m _ _ h1), by simp; omega⟩
    · obtain ⟨T, u, rfl, hT, rfl, hu⟩ := y
      have hu' := hu vs (SqT.of (m _ _ h1))
      obtain ⟨d, hd, rd⟩ := r1.get' hu'
      have hx' : x = (d, i) := by
        rw [List.getElem?_zip_eq_some] at hx
        obtain ⟨e1, e2⟩ := hx
        rw [hd] at e1
        obtain ⟨hl2, he2⟩ := List.getElem?_eq_some_iff.mp e2
        rw [List.getElem_range] at he2
        cases x
        simp at e1 he2
        rw [e1, he2]
      subst hx'
      exact .inr <| .inl ⟨T, _, _, rfl, hT, rfl, .cons (.int _) (.cons rd .nil), rfl⟩
theorem di_zipTL {xs ys : List PyData} (hm : X.mg "zip" = none) (h : DE X e sl hp (isD (.tuple xs)) hp1) (h2 : DE X e2 sl hp1 (isD (.list ys)) hp2) (hg : Gl X "zip" := by rfl) (hs : starEach [e, e2] X.env = (false, eval e X.env) :: starEach [e2] X.env := by rfl) (hs2 : starEach [e2] X.env = (false, eval e2 X.env) :: starEach [] X.env := by rfl) (hpl : (backTo pos (starEach [e2] X.env)).any (·.1) = false := by rfl) :
    DI X (.Tuple elts kk tpos) (.Call (.Name "zip" p) [e, e2] [] pos) sl hp (xs.zip ys) (fun q => isD (.tuple [q.1, q.2])) hp2 := by
  refine ⟨_, pi_zipTL hg hm (da_cons h (da_cons h2 da_nil hs2) hs) hs hpl, fun σ H R ⟨Z, B, S, T, k⟩ => ⟨Z, B, S, T, fun vs B1 H1 m1 S1 q1 => ?_⟩⟩
  obtain ⟨v, w, rfl, hv, hw⟩ := all2_two q1
  cases hv with
  | tup h1 r1 =>
    cases hw with
    | lst h2 r2 =>
      rename_i a vs b ws
      have hl := r1.length
      have hl2 := r2.length
      refine ⟨a, b, vs, ws, rfl, SqT.of (S1.bh _ _ h1), SqL.of (S1.bh _ _ h2), k B1 H1 _ m1 S1 ⟨fun i H hi m _ => ?_, fun H m _ => ?_, fun i x H v H' hx m y => ?_⟩⟩
      · have hi1 : i < vs.length := by simp at hi; omega
        have hi2 : i < ws.length := by simp at hi; omega
        exact ⟨vs, ws, vs[i], ws[i], SqT.of (m _ _ h1), SqL.of (m _ _ h2), by simp [hi1], by simp [hi2]⟩
      · refine ⟨vs, ws, SqT.of (m _ _ h1), SqL.of (m _ _ h2), ?_⟩
        simp; omega
      · obtain ⟨T, u, u2, rfl, hT, rfl, hu, hu2⟩ := y
        obtain ⟨d, hd, rd⟩ := r1.get' (hu vs (SqT.of (m _ _ h1)))
        obtain ⟨d2, hd2, rd2⟩ := r2.get' (hu2 ws (SqL.of (m _ _ h2)))
        have hx' : x = (d, d2) := by
          rw [List.getElem?_zip_eq_some] at hx
          obtain ⟨e1, e2⟩ := hx
          rw [hd] at e1
          rw [hd2] at e2
          cases x
          simp at e1 e2
          rw [e1, e2]
        subst hx'
        exact .inr <| .inl ⟨T, _, _, rfl, hT, rfl, .cons rd (.cons rd2 .nil), rfl⟩
theorem di_zipTT {xs ys : List PyData} (hm : X.mg "zip" = none) (h : DE X e sl hp (isD (.tuple xs)) hp1) (h2 : DE X e2 sl hp1 (isD (.tuple ys)) hp2) (hg : Gl X "zip" := by rfl) (hs : starEach [e, e2] X.env = (false, eval e X.env) :: starEach [e2] X.env := by rfl) (hs2 : starEach [e2] X.env = (false, eval e2 X.env) :: starEach [] X.env := by rfl) (hpl : (backTo pos (starEach [e2] X.env)).any (·.1) = false := by rfl) :
    DI X (.Tuple elts kk tpos) (.Call (.Name "zip" p) [e, e2] [] pos) sl hp (xs.zip ys) (fun q => isD (.tuple [q.1, q.2])) hp2 := by
  refine ⟨_, RZ.pi_zipA hg hm (da_cons h (da_cons h2 da_nil hs2) hs) hs hpl, fun σ H R ⟨Z, B, S, T, k⟩ => ⟨Z, B, S, T, fun vs B1 H1 m1 S1 q1 => ?_⟩⟩
  obtain ⟨v, w, rfl, hv, hw⟩ := all2_two q1
  cases hv with
  | tup h1 r1 =>
    cases hw with
    | tup h2 r2 =>
      rename_i a vs b ws
      have hl := r1.length
      have hl2 := r2.length
      refine ⟨a, b, vs, ws, rfl, .inr ⟨SqT.of (S1.bh _ _ h1), SqT.of (S1.bh _ _ h2), k B1 H1 _ m1 S1 ⟨fun i H hi m _ => ?_, fun H m _ => ?_, fun i x H v H' hx m y => ?_⟩⟩⟩
      · have hi1 : i < vs.length := by simp at hi; omega
        have hi2 : i < ws.length := by simp at hi; omega
        exact ⟨vs, ws, vs[i], ws[i], SqT.of (m _ _ h1), SqT.of (m _ _ h2), by simp [hi1], by simp [hi2]⟩
      · refine ⟨vs, ws, SqT.of (m _ _ h1), SqT.of (m _ _ h2), ?_⟩
        simp; omega
      · obtain ⟨T, u, u2, rfl, hT, rfl, hu, hu2⟩ := y
        obtain ⟨d, hd, rd⟩ := r1.get' (hu vs (SqT.of (m _ _ h1)))
        obtain ⟨d2, hd2, rd2⟩ := r2.get' (hu2 ws (SqT.of (m _ _ h2)))
        have hx' : x = (d, d2) := by
          rw [List.getElem?_zip_eq_some] at hx
          obtain ⟨e1, e2⟩ := hx
          rw [hd] at e1
          rw [hd2] at e2
          cases x
          simp at e1 e2
          rw [e1, e2]
        subst hx'
        exact .inr <| .inl ⟨T, _, _, rfl, hT, rfl, .cons rd (.cons rd2 .nil), rfl⟩
end
end PK
end
section
set_option Elab.async false
set_option linter.all false
set_option maxRecDepth 100000
set_option maxHeartbeats 2000000
/-! The layer: dicts by data. -/
namespace PK
open PySem PySem.Spec PyProof.Rows L2
open PM (aget aput keys)

/-! ### assoc lists of data and the walk's -/
section
variable {κ β lam : Type} [DecidableEq κ] [DecidableEq lam]
abbrev PV (B : Hp) (ke : κ → lam) (ve : β → PyData) (kvs : List (lam × V)) (d : List (κ × β)) : Prop := Paired (fun kv e => kv.1 = ke e.1 ∧ Rp B kv.2 (ve e.2)) kvs d
variable {B B' : Hp} {ke : κ → lam} {ve : β → PyData} {kvs : List (lam × V)} {d : List (κ × β)}
theorem PV.mono (m : Same B B') (h : PV B ke ve kvs d) : PV B' ke ve kvs d := Paired.mapP h fun _ _ q => ⟨q.1, q.2.mono m⟩
theorem PV.some_ (inj : ∀ a b, ke a = ke b → a = b) (h : PV B ke ve kvs d) (x : κ) (y : β) (e : aget d x = some y) : ∃ v, valV kvs (ke x) = some v ∧ Rp B v (ve y) := by
  induction h with
  | nil => cases e
  | @cons kv q kvs d h1 h2 ih =>
    by_cases z : q.1 = x
    · rw [PM.aget_pos z] at e
      cases e
      exact ⟨kv.2, valV_pos (by rw [h1.1, z]), h1.2⟩
    · rw [PM.aget_neg z] at e
      obtain ⟨v, e1, e2⟩ := ih e
      exact ⟨v, by rw [valV_neg (fun w => z (inj _ _ (h1.1.symm.trans w)))]; exact e1, e2⟩
theorem PV.none_ (inj : ∀ a b, ke a = ke b → a = b) (h : PV B ke ve kvs d) (x : κ) (e : aget d x = none) : valV kvs (ke x) = none := by
  induction h with
  | nil => rfl
  | @cons kv q kvs d h1 h2 ih =>
    by_cases z : q.1 = x
    · rw [PM.aget_pos z] at e; cases e
    · rw [PM.aget_neg z] at e
      rw [valV_neg (fun w => z (inj _ _ (h1.1.symm.trans w)))]; exact ih e
theorem PV.isSome (inj : ∀ a b, ke a = ke b → a = b) (h : PV B ke ve kvs d) (x : κ) : (valV kvs (ke x)).isSome = (aget d x).isSome := by
  cases e : aget d x with
  | none => rw [h.none_ inj x e]; rfl
  | some y => obtain ⟨v, e1, _⟩ := h.some_ inj x y e; rw [e1]; rfl
theorem PV.repl (inj : ∀ a b, ke a = ke b → a = b) (h : PV B ke ve kvs d) (x : κ) {v : V} {y : β} (hv : Rp B v (ve y)) : PV B ke ve (kvs.map fun kv => if kv.1 = ke x then (kv.1, v) else kv) (d.map fun kv => if kv.1 = x then (kv.1, y) else kv) := by
  induction h with
  | nil => exact .nil
  | @cons kv q kvs d h1 h2 ih =>
    refine .cons ?_ ih
    dsimp only
    by_cases z : q.1 = x
    · rw [if_pos z, if_pos (by rw [h1.1, z])]; exact ⟨h1.1, hv⟩
    · rw [if_neg z, if_neg (fun w => z (inj _ _ (h1.1.symm.trans w)))]; exact h1
theorem PV.put (inj : ∀ a b, ke a = ke b → a = b) (h : PV B ke ve kvs d) (x : κ) {v : V} {y : β} (hv : Rp B v (ve y)) : PV B ke ve (putK kvs (ke x) v) (aput d x y) := by
  have e : (kvs.any fun kv => decide (kv.1 = ke x)) = (d.any fun kv => decide (kv.1 = x)) := by rw [valV_any, PM.aget_any]; exact h.isSome inj x
  unfold putK aput
  rw [e]
  split
  · exact h.repl inj x hv
  · exact Paired.snoc h ⟨rfl, hv⟩
end

/-! ### objects -/
/-- .. by what it is -/
def oT {κ β : Type} [DecidableEq κ] (ke : κ → List Key) (ve : β → PyData) (d : List (κ × β)) : MO := ⟨fun o B => ∃ kvs, o = .dT kvs ∧ PV B ke ve kvs d, fun m ⟨kvs, h1, h2⟩ => ⟨kvs, h1, h2.mono m⟩⟩
def oK {κ β : Type} [DecidableEq κ] (ke : κ → Key) (ve : β → PyData) (d : List (κ × β)) : MO := ⟨fun o B => ∃ kvs, o = .dK kvs ∧ PV B ke ve kvs d, fun m ⟨kvs, h1, h2⟩ => ⟨kvs, h1, h2.mono m⟩⟩
/-- locked while a loop walks it -/
def oFz (od : Obj) (u : HO) (mo : MO) : MO := ⟨fun o B => o = .frz od u ∧ mo.p u B, fun m h => ⟨h.1, mo.mono m h.2⟩⟩
/-- an object that all may read -/
def isO (mo : MO) : MA := ⟨fun v B => ∃ a o, v = .ref a ∧ B a = some o ∧ mo.p o B, fun m ⟨a, o, h1, h2, h3⟩ => ⟨a, o, h1, m _ _ h2, mo.mono m h3⟩⟩
/-- a value at which such an object stands -/
def Acc (A : MA) (hp : List Cell) (mo : MO) : Prop := ∀ Z B H v, Sat Z B H hp → A.p v B → ∃ a o, v = .ref a ∧ Rd H a o ∧ mo.p o B
theorem acc_own {hp : List Cell} {a : Addr} {mo : MO} (j : Nat) (hj : hp[j]? = some ⟨a, mo⟩) : Acc (isV (.ref a)) hp mo := fun Z B H v S h => by
  obtain ⟨o, h1, h2⟩ := S.at hj
  exact ⟨a, o, h, .inl h1, h2⟩
theorem acc_fz {hp : List Cell} {a : Addr} {od : Obj} {u : HO} {mo : MO} (j : Nat) (hj : hp[j]? = some ⟨a, oFz od u mo⟩) : Acc (isV (.ref a)) hp mo := fun Z B H v S h => by
  obtain ⟨o, h1, h2, h3⟩ := S.at hj
  subst h2
  exact ⟨a, u, h, .inr ⟨od, h1⟩, h3⟩
theorem acc_fr {hp : List Cell} {mo : MO} : Acc (isO mo) hp mo := fun Z B H v S ⟨a, o, h1, h2, h3⟩ => ⟨a, o, h1, .inl (S.bh _ _ h2), h3⟩

/-! ### keys -/
def dKey : Key → PyData
  | .inl i => .int i
  | .inr s => .str s
def eKey (k : List Key) : PyData := .tuple (k.map dKey)
theorem rp_key {B : Hp} {v : V} {k : Key} (h : Rp B v (dKey k)) : v = kV k := by
  cases k with
  | inl i => cases h; rfl
  | inr s => cases h; rfl
theorem rpl_keys {B : Hp} : ∀ {vs : List V} {ks : List Key}, RpL B vs (ks.map dKey) → vs = ks.map kV
  | _, [], .nil => rfl
  | _, k :: ks, .cons h t => by rw [rp_key h, rpl_keys t]; rfl
theorem rp_eKey {B : Hp} {v : V} {k : List Key} (h : Rp B v (eKey k)) : ∃ b, v = .ref b ∧ B b = some (.tup (k.map kV)) := by
  cases h with
  | tup h1 r => rw [rpl_keys r] at h1; exact ⟨_, rfl, h1⟩
theorem keys_rpl {B : Hp} : ∀ ks : List Key, RpL B (ks.map kV) (ks.map dKey)
  | [] => .nil
  | .inl i :: ks => .cons (.int i) (keys_rpl ks)
  | .inr s :: ks => .cons (.str s) (keys_rpl ks)

/-! ### rules -/
section
variable {κ β : Type} [DecidableEq κ] {X : Cx} {sl : SL} {hp hp1 : List Cell} {A : MA} {o i e f value : Expr} {pos pos' apos cpos : Pos} {ke : κ → List Key} {kk : κ → Key} {ve : β → PyData} {d : List (κ × β)} {x : κ} {y : β}
theorem DGet.rdT {H : Hp} {a b : Addr} {kvs : List (List Key × V)} {k : List Key} (e : Rd H a (.dT kvs)) (eb : H b = some (.tup (k.map kV))) : DGet H a (.ref b) (valV kvs k) := .inr ⟨kvs, k, b, e, rfl, eb, rfl⟩
theorem DGet.rdK {H : Hp} {a : Addr} {kvs : List (Key × V)} {k : Key} (e : Rd H a (.dK kvs)) : DGet H a (kV k) (valV kvs k) := .inl ⟨kvs, k, e, rfl, rfl⟩
/-- d[k], there -/
theorem de_getT (inj : ∀ a b, ke a = ke b → a = b) (hu : X.A.units + 64 < cLine) (hx : aget d x = some y) (ac : Acc A hp (oT ke ve d)) (ho : DE X o sl hp A hp) (hi : DE X i sl hp (isD (eKey (ke x))) hp) (hs : NoSl i := by exact fun _ _ => rfl) : DE X (.Subscript o i pos) sl hp (isD (ve y)) hp :=
  pe_imp (pe_dget (by omega) ho hi hs) fun σ H Q ⟨Z, B, S, T, k⟩ => ⟨Z, B, S, T, fun v B1 H1 m1 S1 q1 => ⟨Z, B1, S1, T.mono m1, fun w B2 H2 m2 S2 q2 => by
    obtain ⟨a, o, rfl, h1, kvs, rfl, pv⟩ := ac _ _ _ _ S2 (A.mono m2 q1)
    obtain ⟨b, rfl, h2⟩ := rp_eKey q2
    obtain ⟨u, hu1, hu2⟩ := pv.some_ inj x y hx
    exact ⟨a, u, rfl, by rw [← hu1]; exact DGet.rdT h1 (S2.bh _ _ h2), k u B2 H2 (m1.trans m2) S2 hu2⟩⟩⟩
theorem de_getK (inj : ∀ a b, kk a = kk b → a = b) (hu : X.A.units + 64 < cLine) (hx : aget d x = some y) (ac : Acc A hp (oK kk ve d)) (ho : DE X o sl hp A hp) (hi : DE X i sl hp (isD (dKey (kk x))) hp) (hs : NoSl i := by exact fun _ _ => rfl) : DE X (.Subscript o i pos) sl hp (isD (ve y)) hp :=
  pe_imp (pe_dget (by omega) ho hi hs) fun σ H Q ⟨Z, B, S, T, k⟩ => ⟨Z, B, S, T, fun v B1 H1 m1 S1 q1 => ⟨Z, B1, S1, T.mono m1, fun w B2 H2 m2 S2 q2 => by
    obtain ⟨a, o, rfl, h1, kvs, rfl, pv⟩ := ac _ _ _ _ S2 (A.mono m2 q1)
    obtain rfl := rp_key q2
    obtain ⟨u, hu1, hu2⟩ := pv.some_ inj x y hx
    exact ⟨a, u, rfl, by rw [← hu1]; exact DGet.rdK h1, k u B2 H2 (m1.trans m2) S2 hu2⟩⟩⟩
/-- k not in d -/
theorem dt_notInT (inj : ∀ a b, ke a = ke b → a = b) (hu : X.A.units + 64 < cLine) (ac : Acc A hp (oT ke ve d)) (hi : DE X i sl hp (isD (eKey (ke x))) hp) (ho : DE X o sl hp A hp) (hm : behindInMarks .NotIn o = false := by first | exact nomark _ | rfl) : DT X (.Compare i [.NotIn] [o] pos) sl hp (!(aget d x).isSome) hp :=
  pt_imp (pt_cmp (pc_dnotin (by omega) hi ho) hm) fun σ H Q ⟨Z, B, S, T, k⟩ => ⟨Z, B, S, T, fun w B1 H1 m1 S1 q1 => ⟨Z, B1, S1, T.mono m1, fun v B2 H2 m2 S2 q2 => by
    obtain ⟨a, o, rfl, h1, kvs, rfl, pv⟩ := ac _ _ _ _ S2 q2
    obtain ⟨b, rfl, h2⟩ := rp_eKey q1
    exact ⟨a, valV kvs (ke x), rfl, DGet.rdT h1 (S2.bh _ _ (m2 _ _ h2)), _, rfl, by rw [pv.isSome inj]; exact k B2 H2 (m1.trans m2) S2⟩⟩⟩
theorem dt_notInK (inj : ∀ a b, kk a = kk b → a = b) (hu : X.A.units + 64 < cLine) (ac : Acc A hp (oK kk ve d)) (hi : DE X i sl hp (isD (dKey (kk x))) hp) (ho : DE X o sl hp A hp) (hm : behindInMarks .NotIn o = false := by first | exact nomark _ | rfl) : DT X (.Compare i [.NotIn] [o] pos) sl hp (!(aget d x).isSome) hp :=
  pt_imp (pt_cmp (pc_dnotin (by omega) hi ho) hm) fun σ H Q ⟨Z, B, S, T, k⟩ => ⟨Z, B, S, T, fun w B1 H1 m1 S1 q1 => ⟨Z, B1, S1, T.mono m1, fun v B2 H2 m2 S2 q2 => by
    obtain ⟨a, o, rfl, h1, kvs, rfl, pv⟩ := ac _ _ _ _ S2 q2
    obtain rfl := rp_key q1
    exact ⟨a, valV kvs (kk x), rfl, DGet.rdK h1, _, rfl, by rw [pv.isSome inj]; exact k B2 H2 (m1.trans m2) S2⟩⟩⟩
/-- d.get(k, z), numbers -/
theorem de_get2T {d : List (κ × Int)} {z : Int} (inj : ∀ a b, ke a = ke b → a = b) (hu : X.A.units + 64 < cLine) (ac : Acc A hp (oT ke .int d)) (ho : DE X o sl hp A hp) (hi : DE X e sl hp (isD (eKey (ke x))) hp) (hz : DE X f sl hp (isI z) hp) (m : M2 X o "get" apos e f cpos := by exact ⟨rfl, rfl, rfl, rfl⟩) : DE X (.Call (.Attribute o "get" apos) [e, f] [] cpos) sl hp (isI ((aget d x).getD z)) hp :=
  pe_imp (pe_dget2 (by omega) ho hi hz m) fun σ H Q ⟨Z, B, S, T, k⟩ => ⟨Z, B, S, T, fun v B1 H1 m1 S1 q1 => by
    obtain ⟨a, o, rfl, h1, kvs, rfl, pv⟩ := ac _ _ _ _ S1 q1
    refine ⟨a, rfl, .inr ⟨kvs, h1⟩, Z, B1, S1, T.mono m1, fun w B2 H2 m2 S2 q2 => ⟨Z, B2, S2, T.mono (m1.trans m2), fun u B3 H3 m3 S3 q3 => ?_⟩⟩
    obtain ⟨a', o', e', h1', kvs', rfl, pv'⟩ := ac _ _ _ _ S3 (A.mono (m2.trans m3) q1)
    cases e'
    obtain ⟨b, rfl, h2⟩ := rp_eKey q2
    refine ⟨_, DGet.rdT h1' (S3.bh _ _ (m3 _ _ h2)), k _ B3 H3 (m1.trans (m2.trans m3)) S3 ?_⟩
    cases q : aget d x with
    | none => rw [pv'.none_ inj x q]; exact q3
    | some n =>
      obtain ⟨v, hv1, hv2⟩ := pv'.some_ inj x n q
      rw [hv1]; exact hv2⟩
/-- d[k] = v, d owned -/
theorem dss_putT {own0 : List Addr} {rest : List Stmt} {Nx : NxP} {Rt : RtP} {a : Addr} (j : Nat) (inj : ∀ a b, ke a = ke b → a = b) (hu : X.A.units + 64 < cLine) (hv : DE X value sl hp (isD (ve y)) hp1) (ho : DE X o sl hp1 (isV (.ref a)) hp1) (hi : DE X i sl hp1 (isD (eKey (ke x))) hp1) (hj : hp1[j]? = some ⟨a, oT ke ve d⟩) (hz : d.length < 1000000)
    (hr : DSs X own0 rest sl (hp1.set j ⟨a, oT ke ve (aput d x y)⟩) Nx Rt) (hs : swapsWith value (some (.Subscript o i pos')) pos.line X.env = pure false := by rfl) : DSs X own0 (.Assign [.Subscript o i pos'] value pos :: rest) sl hp Nx Rt :=
  pss_imp (pss_cons (ps_dput (by omega) ho hi hv hs) hr) fun D σ H ⟨Z, B, z, S, T, k, r⟩ => ⟨Z, B, S, T, fun v B1 H1 m1 S1 q1 => ⟨Z, B1, S1, T.mono m1, fun w B2 H2 m2 S2 q2 => ⟨Z, B2, S2, T.mono (m1.trans m2), fun u B3 H3 m3 S3 q3 => by
    have q2' : w = .ref a := q2
    subst q2'
    obtain ⟨u0, hu0, kvs, rfl, pv⟩ := S3.at hj
    obtain ⟨b, rfl, h2⟩ := rp_eKey q3
    refine ⟨a, _, rfl, DPut.t hu0 (S3.bh _ _ h2) (by rw [Paired.length pv]; exact Nat.lt_of_lt_of_le hz (by decide)), Z, B3, z, ?_, T.mono (m1.trans (m2.trans m3)), fun σ' B' H' s h m => k σ' B' H' s h (m1.trans (m2.trans (m3.trans m))), fun v B' H' h m => r v B' H' h (m1.trans (m2.trans (m3.trans m)))⟩
    exact S3.write hj (o := .dT (putK kvs (ke x) v)) (mo := oT ke ve (aput d x y)) ⟨_, rfl, pv.put inj x ((q1.mono m2).mono m3)⟩⟩⟩⟩
theorem dss_putK {own0 : List Addr} {rest : List Stmt} {Nx : NxP} {Rt : RtP} {a : Addr} (j : Nat) (inj : ∀ a b, kk a = kk b → a = b) (hu : X.A.units + 64 < cLine) (hv : DE X value sl hp (isD (ve y)) hp1) (ho : DE X o sl hp1 (isV (.ref a)) hp1) (hi : DE X i sl hp1 (isD (dKey (kk x))) hp1) (hj : hp1[j]? = some ⟨a, oK kk ve d⟩) (hz : d.length < 1000000)
    (hr : DSs X own0 rest sl (hp1.set j ⟨a, oK kk ve (aput d x y)⟩) Nx Rt) (hs : swapsWith value (some (.Subscript o i pos')) pos.line X.env = pure false := by rfl) : DSs X own0 (.Assign [.Subscript o i pos'] value pos :: rest) sl hp Nx Rt :=
  pss_imp (pss_cons (ps_dput (by omega) ho hi hv hs) hr) fun D σ H ⟨Z, B, z, S, T, k, r⟩ => ⟨Z, B, S, T, fun v B1 H1 m1 S1 q1 => ⟨Z, B1, S1, T.mono m1, fun w B2 H2 m2 S2 q2 => ⟨Z, B2, S2, T.mono (m1.trans m2), fun u B3 H3 m3 S3 q3 => by
    have q2' : w = .ref a := q2
    subst q2'
    obtain ⟨u0, hu0, kvs, rfl, pv⟩ := S3.at hj
    obtain rfl := rp_key q3
    refine ⟨a, _, rfl, DPut.k hu0 (by rw [Paired.length pv]; exact Nat.lt_of_lt_of_le hz (by decide)), Z, B3, z, ?_, T.mono (m1.trans (m2.trans m3)), fun σ' B' H' s h m => k σ' B' H' s h (m1.trans (m2.trans (m3.trans m))), fun v B' H' h m => r v B' H' h (m1.trans (m2.trans (m3.trans m)))⟩
    exact S3.write hj (o := .dK (putK kvs (kk x) v)) (mo := oK kk ve (aput d x y)) ⟨_, rfl, pv.put inj x ((q1.mono m2).mono m3)⟩⟩⟩⟩
/-- x = {} -/
theorem dss_newT {own0 : List Addr} {rest : List Stmt} {Nx : NxP} {Rt : RtP} {i : Nat} {x : Str} {p : Pos} (ke : κ → List Key) (ve : β → PyData) (hr : ∀ a, a ∉ own0 → DSs X own0 rest (sl.set i (some (isV (.ref a)))) (hp ++ [⟨a, oT ke ve []⟩]) Nx Rt) (hN : X.N.Nodup) (hi : X.N[i]? = some x := by rfl) (hx : Loc X.env.scope x := by first | exact Or.inl rfl | exact Or.inr rfl)
    (hs : swapsWith (.Dict [] [] p) (some (.Name x pos')) pos.line X.env = pure false := by rfl) (hf : X.fn x = true ∨ X.env.scope.names.lookup x = some .local := by first | exact .inl rfl | exact .inr rfl | assumption) :
    DSs X own0 (.Assign [.Name x pos'] (.Dict [] [] p) pos :: rest) sl hp Nx Rt := by
  refine pss_imp (pss_cons (ps_set hN hi hx pe_dnewT hs hf) (pss_ex fun a => pss_hyp (hr a))) fun D σ H ⟨Z, B, z, S, T, k, r⟩ => fun p hp => ?_
  obtain ⟨S2, hn⟩ := S.allocOwn hp (o := .dT []) (mo := oT ke ve []) ⟨[], rfl, .nil⟩
  exact ⟨p, by rw [← z]; exact hn, Z, B, z, S2, T.set (A := isV (.ref p)) rfl i, k, r⟩
theorem dss_newK {own0 : List Addr} {rest : List Stmt} {Nx : NxP} {Rt : RtP} {i : Nat} {x : Str} {p : Pos} (kk : κ → Key) (ve : β → PyData) (hr : ∀ a, a ∉ own0 → DSs X own0 rest (sl.set i (some (isV (.ref a)))) (hp ++ [⟨a, oK kk ve []⟩]) Nx Rt) (hN : X.N.Nodup) (hi : X.N[i]? = some x := by rfl) (hx : Loc X.env.scope x := by first | exact Or.inl rfl | exact Or.inr rfl)
    (hs : swapsWith (.Dict [] [] p) (some (.Name x pos')) pos.line X.env = pure false := by rfl) (hf : X.fn x = true ∨ X.env.scope.names.lookup x = some .local := by first | exact .inl rfl | exact .inr rfl | assumption) :
    DSs X own0 (.Assign [.Name x pos'] (.Dict [] [] p) pos :: rest) sl hp Nx Rt := by
  refine pss_imp (pss_cons (ps_set hN hi hx pe_dnewK hs hf) (pss_ex fun a => pss_hyp (hr a))) fun D σ H ⟨Z, B, z, S, T, k, r⟩ => fun p hp => ?_
  obtain ⟨S2, hn⟩ := S.allocOwn hp (o := .dK []) (mo := oK kk ve []) ⟨[], rfl, .nil⟩
  exact ⟨p, by rw [← z]; exact hn, Z, B, z, S2, T.set (A := isV (.ref p)) rfl i, k, r⟩
end
/-- what is owned is given to all -/
theorem dss_freezeO {X : Cx} {own0 : List Addr} {sts : List Stmt} {sl : SL} {hp hp' : List Cell} {Nx : NxP} {Rt : RtP} {a : Addr} {mo : MO} (i : Nat) (hi : sl[i]? = some (some (isV (.ref a)))) (ha : a ∉ own0) (h : DSs X own0 sts (sl.set i (some (isO mo))) (hp ++ hp') Nx Rt) : DSs X own0 sts sl (hp ++ ⟨a, mo⟩ :: hp') Nx Rt := by
  refine pss_imp h fun D σ H ⟨Z, B, z, S, T, k, r⟩ => ?_
  obtain ⟨o, h1, h2, S2, m⟩ := S.freeze (by rw [z]; exact ha)
  obtain ⟨v, e1, e2⟩ := T.at_ i _ hi
  have e2' : v = .ref a := e2
  subst e2'
  refine ⟨Z, _, z, S2, ?_, fun σ' B' H' s h m' => k σ' B' H' s h (m.trans m'), fun v B' H' h m' => r v B' H' h (m.trans m')⟩
  have := (T.mono m).set (v := .ref a) (A := isO mo) ⟨a, o, rfl, upd_same, mo.mono m h2⟩ i
  have e : σ.set i (some (V.ref a)) = σ := by
    apply List.ext_getElem?
    intro j
    by_cases e : i = j
    · subst e
      rw [List.getElem?_set_self (List.getElem?_eq_some_iff.mp e1).1, e1]
    · rw [List.getElem?_set_ne e]
  rw [e] at this
  exact this
end PK
end
section
set_option Elab.async false
set_option linter.all false
set_option maxRecDepth 100000
set_option maxHeartbeats 2000000
namespace PK
open PySem PySem.Spec PyProof.Rows L2
open PM (aget aput keys)
section
variable {X : Cx} {pins : List (Addr × Obj)} {σ : L2.St} {H : Hp} {s : Shared} {a b : Addr} {u r : Value} {d : V} {k : List Key} {A : Around} {E : Value → Shared → Prop}
theorem d_setdT {kvs : List (List Key × V)} {Q : Value → Shared → Prop} (hu : A.units + 1 < cLine) (I : Inv X pins σ H s) (e : H a = some (.dT kvs)) (eb : H b = some (.tup (k.map kV))) (rd : RelV d r) (hl : kvs.length < sizeLine)
    (h1 : ∀ v, valV kvs k = some v → ∀ (w' : Value) (s' : Shared), Inv X pins σ H s' → RelV v w' → Q w' s') (h2 : valV kvs k = none → ∀ (w' : Value) (s' : Shared), Inv X pins σ (upd H a (.dT (putK kvs k d))) s' → RelV d w' → Q w' s') :
    wpAny (model X.prog X.w) A (call (.builtin "dict.setdefault") [.ref a, .ref b, r]) Q E s := by
  obtain ⟨z, hd, xs, rel, dd⟩ := dt_of I.hok e
  have hz : xs.length ≤ sizeLine := by rw [← Paired.length rel]; exact z
  have hlp : (putK kvs k d).length ≤ sizeLine := by have := length_putK kvs k d; omega
  have vl := rel.val k
  refine call_setdefault_heap (hsz := hz) (tupleKind_room_in1 hu) (key_of I.hok eb) hd dd (fun p hp => ?_) fun hn h' dd' hs => ?_
  · rw [hp] at vl
    cases q0 : valV kvs k with
    | none => rw [q0] at vl; exact (show False from vl).elim
    | some v0 => rw [q0] at vl; exact h1 v0 q0 _ _ (I.tok _) vl
  · rw [hn] at vl
    cases q0 : valV kvs k with
    | some v0 => rw [q0] at vl; exact (show False from vl).elim
    | none =>
      obtain ⟨q, es, ep, hq, x2, x3, x4, _, x5⟩ := dd'
      refine h2 q0 _ _ (d_write I (by rw [e]; exact True.intro) hs ⟨q, hq⟩ ⟨hlp, hd, _, (rel.put k eb rd).keeps fun c ys ec => ?_, q, es, ep, hq, x2, x3, x4, x5⟩) rd
      rw [upd_ne (ne_of ec e (fun z => nomatch z))]
      exact ec
end
def tDSetdT (td ty tx : TE) : TE := fun σ H Q => td σ H fun x H1 => ∃ a, x = .ref a ∧ IsD H1 a ∧ ty σ H1 fun y H2 => tx σ H2 fun z H3 => ∃ (kvs : List (List Key × V)) (k : List Key) (b : Addr), H3 a = some (.dT kvs) ∧ y = .ref b ∧ H3 b = some (.tup (k.map kV)) ∧ kvs.length < sizeLine ∧
  (∀ v, valV kvs k = some v → Q v H3) ∧ (valV kvs k = none → Q z (upd H3 a (.dT (putK kvs k z))))
theorem pe_dsetdT {X : Cx} {o e f : Expr} {td ty tx : TE} {apos cpos : Pos} (hu : X.A.units + 1 < cLine) (ho : PE X o td) (he : PE X e ty) (hf : PE X f tx) (m : M2 X o "setdefault" apos e f cpos) : PE X (.Call (.Attribute o "setdefault" apos) [e, f] [] cpos) (tDSetdT td ty tx) := by
  refine ⟨fun pins s σ H Q I h => ?_⟩
  refine wpAny_Call_method m.base m.few m.line PySem.F.plainAttrs_dict PySem.F.slot_dict_setdefault PySem.F.type_dict_setdefault (thn (ho.run pins s σ H _ I h) fun u s1 ⟨x, H1, I1, rx, a, ex, d, q1⟩ => ?_)
  subst ex
  obtain rfl : u = Value.ref a := rx
  obtain ⟨t1, t2, _⟩ := isD_at I1 d
  refine ⟨t1, t2, ?_⟩
  rw [m.trees]
  refine Calls.callWith_builtin rfl (Calls.evalArgs_plain (Calls.spliced_cons (thn (he.run pins s1 σ H1 _ I1 q1) fun iv s2 ⟨y, H2, I2, ry, q2⟩ =>
    Calls.spliced_cons (thn (hf.run pins s2 σ H2 _ I2 q2) fun fv s3 ⟨z, H3, I3, rz, kvs, k, b, ea, ey, eb, hl, q3, q4⟩ => Calls.spliced_nil ?_))))
  subst ey
  cases (show iv = Value.ref b from ry)
  exact d_setdT hu I3 ea eb rz hl (fun v hv w' s4 I4 rw' => ⟨v, _, I4, rw', q3 v hv⟩) fun hn w' s4 I4 rw' => ⟨z, _, I4, rw', q4 hn⟩
section
variable {κ β : Type} [DecidableEq κ] {X : Cx} {sl : SL} {hp hp1 : List Cell} {A : MA} {o i e f value : Expr} {pos pos' apos cpos : Pos} {ke : κ → List Key} {kk : κ → Key} {ve : β → PyData} {x : κ} {y : β}
def setd (d : List (κ × Int)) (x : κ) (z : Int) : List (κ × Int) := match aget d x with
  | none => aput d x z
  | some _ => d
theorem de_setdT {d : List (κ × Int)} {z : Int} {a : Addr} (j : Nat) (inj : ∀ a b, ke a = ke b → a = b) (hu : X.A.units + 64 < cLine) (hj : hp[j]? = some ⟨a, oT ke .int d⟩) (hl : d.length < 1000000) (ho : DE X o sl hp (isV (.ref a)) hp) (hi : DE X e sl hp (isD (eKey (ke x))) hp) (hz : DE X f sl hp (isI z) hp) (m : M2 X o "setdefault" apos e f cpos := by exact ⟨rfl, rfl, rfl, rfl⟩) :
    DE X (.Call (.Attribute o "setdefault" apos) [e, f] [] cpos) sl hp (isI ((aget d x).getD z)) (hp.set j ⟨a, oT ke .int (setd d x z)⟩) :=
  pe_imp (pe_dsetdT (by omega) ho hi hz m) fun σ H Q ⟨Z, B, S, T, k⟩ => ⟨Z, B, S, T, fun v B1 H1 m1 S1 q1 => by
    have q1' : v = .ref a := q1
    subst q1'
    obtain ⟨u1, h1, kvs1, rfl, pv1⟩ := S1.at hj
    refine ⟨a, rfl, .inr ⟨kvs1, .inl h1⟩, Z, B1, S1, T.mono m1, fun w B2 H2 m2 S2 q2 => ⟨Z, B2, S2, T.mono (m1.trans m2), fun u B3 H3 m3 S3 q3 => ?_⟩⟩
    obtain ⟨b, rfl, h2⟩ := rp_eKey q2
    obtain ⟨u3, h3, kvs, rfl, pv⟩ := S3.at hj
    refine ⟨kvs, ke x, b, h3, rfl, S3.bh _ _ (m3 _ _ h2), by rw [Paired.length pv]; exact Nat.lt_of_lt_of_le hl (by decide), fun v hv => ?_, fun hn => ?_⟩
    · cases q : aget d x with
      | none => rw [pv.none_ inj x q] at hv; cases hv
      | some n =>
        obtain ⟨v', hv1, hv2⟩ := pv.some_ inj x n q
        rw [hv] at hv1
        cases hv1
        have e1 : setd d x z = d := by unfold setd; rw [q]
        have e2 : hp.set j ⟨a, oT ke .int (setd d x z)⟩ = hp := by
          rw [e1]
          apply List.ext_getElem?
          intro i
          by_cases e : j = i
          · subst e
            rw [List.getElem?_set_self (List.getElem?_eq_some_iff.mp hj).1, hj]
          · rw [List.getElem?_set_ne e]
        exact k _ B3 H3 (m1.trans (m2.trans m3)) (by rw [e2]; exact S3) (by rw [q]; exact hv2)
    · cases q : aget d x with
      | some n =>
        obtain ⟨v', hv1, hv2⟩ := pv.some_ inj x n q
        rw [hn] at hv1; cases hv1
      | none =>
        have e1 : setd d x z = aput d x z := by unfold setd; rw [q]
        refine k _ B3 _ (m1.trans (m2.trans m3)) ?_ (by rw [q]; exact q3)
        rw [e1]
        exact S3.write hj (o := .dT (putK kvs (ke x) u)) (mo := oT ke .int (aput d x z)) ⟨_, rfl, pv.put inj x q3⟩⟩
end
end PK
end
section
set_option Elab.async false
set_option linter.all false
set_option maxRecDepth 100000
set_option maxHeartbeats 2000000
/-! sorted of a list that reads as data; of a dict with tuple keys. -/
namespace PK
open PySem PySem.Spec PyProof.Rows L2
open PySem.W (AllAlike Sortable dataLe EachIs alike alikeAll)

theorem each_vals : ∀ {zs : List (V × PyData)} {us : List Value}, Vals (zs.map (·.1)) us → EachIs (fun u (z : V × PyData) => RelV z.1 u) us zs
  | [], _, .nil => .nil
  | z :: zs, _, .cons r t => .cons r (each_vals t)
theorem vals_each : ∀ {zs : List (V × PyData)} {us : List Value}, EachIs (fun u (z : V × PyData) => RelV z.1 u) us zs → Vals (zs.map (·.1)) us
  | _, _, .nil => .nil
  | _, _, .cons r t => .cons r (vals_each t)
theorem each_reads {X : Cx} {pins : List (Addr × Obj)} {σ : L2.St} {H : Hp} {s : Shared} (I : Inv X pins σ H s) : ∀ {zs : List (V × PyData)} {us : List Value}, (∀ z ∈ zs, Dp X.K H z.1 z.2) → EachIs (fun u (z : V × PyData) => RelV z.1 u) us zs → EachIs (fun u (z : V × PyData) => ∃ as, Reads s.heap u z.2 as) us zs
  | _, _, _, .nil => .nil
  | _, _, h, .cons r t => .cons (Dp.reads I _ _ _ (h _ (List.mem_cons_self ..)) r) (each_reads I (fun z hz => h z (List.mem_cons_of_mem _ hz)) t)
def rSortDat (K : PySem.W.Frag) : List V → Hp → VK → Prop := fun vs H Q => ∃ (a : Addr) (zs : List (V × PyData)), vs = [.ref a] ∧ SqL K H a (zs.map (·.1)) ∧ (∀ z ∈ zs, Dp K H z.1 z.2) ∧ AllAlike (zs.map (·.2)) ∧ Sortable (zs.map (·.2)) ∧ zs.length ≤ sizeLine ∧ (∀ z ∈ zs, z.2.depth ≤ 60) ∧
  ∀ p, H p = none → Q (.ref p) (upd H p (.lst ((zs.mergeSort (dataLe false fun z : V × PyData => z.2)).map (·.1))))
theorem cr_sortDat {X : Cx} (hu : X.A.units + 64 < cLine) : CallR X (.builtin "sorted") (rSortDat X.K) := by
  intro pins s σ H vs us Q I r h
  obtain ⟨a, zs, rfl, hs, hd, hal, hk, hz, hdp, q⟩ := h
  obtain ⟨its, rv, hl, _⟩ := I.list hs
  rw [Vals.ref1 r]
  have e := each_vals rv
  refine PySem.W.sorted_data (R := fun u (z : V × PyData) => RelV z.1 u) (enc := fun z : V × PyData => z.2) hl.isList e (each_reads I hd e) hal hk hz (fun b hb => by have := hdp b hb; omega) fun out h1 h2 => ?_
  obtain ⟨ep, he'⟩ := PyProof.Rows.sortedAll_at s.heap its out.toArray
  have hlen : ((zs.mergeSort (dataLe false fun z : V × PyData => z.2)).map (·.1)).length ≤ sizeLine := by rw [List.length_map, (List.mergeSort_perm _ _).length_eq]; exact hz
  exact ⟨.ref _, upd H (s.heap.objs.size + 1) (.lst ((zs.mergeSort (dataLe false fun z : V × PyData => z.2)).map (·.1))), I.laid (t' := s.toks) (fun _ _ => PyProof.Rows.sortedAll_old) (Nat.le_succ _) ⟨hlen, out, ep, vals_each h2, he'⟩, rfl, q _ (I.hok.fresh (Nat.le_succ _))⟩

/-- the keys' tuples -/
theorem reads_keys {h : Heap} : ∀ {ks : List Key} {us : List Value} {as : List Addr}, ReadsAll h us (ks.map dKey) as → as = []
  | [], _, _, .nil => rfl
  | .inl i :: ks, _, _, .cons r t => by cases r; rw [reads_keys t]; rfl
  | .inr i :: ks, _, _, .cons r t => by cases r; rw [reads_keys t]; rfl
theorem reads_key {h : Heap} {k : List Key} {u : Value} {as : List Addr} (r : Reads h u (eKey k) as) : as = [] := by
  cases r with
  | tuple h1 h2 h3 h4 => exact reads_keys h4
def keyZs (kvs : List (List Key × V)) (bs : List Addr) : List (V × PyData) := (bs.map V.ref).zip (kvs.map fun p => eKey p.1)
theorem keyZs_dp {K : PySem.W.Frag} {H : Hp} : ∀ {kvs : List (List Key × V)} {bs : List Addr}, IsKeys H kvs bs → ∀ z ∈ keyZs kvs bs, ∃ (b : Addr) (k : List Key), z = (V.ref b, eKey k) ∧ H b = some (.tup (k.map kV)) ∧ k ∈ kvs.map (·.1)
  | _, _, .nil, z, hz => by cases hz
  | p :: kvs, b :: bs, .cons h t, z, hz => by
    have hz' : z ∈ (V.ref b, eKey p.1) :: keyZs kvs bs := hz
    rcases List.mem_cons.mp hz' with rfl | hz'
    · exact ⟨b, p.1, rfl, h, by simp⟩
    · obtain ⟨b', k, h1, h2, h3⟩ := keyZs_dp (K := K) t z hz'
      exact ⟨b', k, h1, h2, by rw [List.map_cons]; exact List.mem_cons_of_mem _ h3⟩
theorem keyZs_fst {H : Hp} : ∀ {kvs : List (List Key × V)} {bs : List Addr}, IsKeys H kvs bs → (keyZs kvs bs).map (·.1) = bs.map V.ref ∧ (keyZs kvs bs).map (·.2) = kvs.map fun p => eKey p.1
  | _, _, .nil => ⟨rfl, rfl⟩
  | p :: kvs, b :: bs, .cons h t => by
    obtain ⟨h1, h2⟩ := keyZs_fst t
    exact ⟨by show V.ref b :: (keyZs kvs bs).map (·.1) = _; rw [h1]; rfl, by show eKey p.1 :: (keyZs kvs bs).map (·.2) = _; rw [h2]; rfl⟩
theorem dp_key {K : PySem.W.Frag} {H : Hp} {b : Addr} {k : List Key} (h : H b = some (.tup (k.map kV))) : Dp K H (.ref b) (eKey k) := by
  refine .tup (SqT.of h) ?_
  clear h
  induction k with
  | nil => exact .nil
  | cons x k ih =>
    refine .cons ?_ ih
    cases x with
    | inl i => exact .int i
    | inr s => exact .str s
theorem depth_keys : ∀ ks : List Key, PyData.depthAll (ks.map dKey) = 0
  | [] => rfl
  | .inl i :: ks => by simp [PyData.depthAll, PyData.depth, depth_keys ks, dKey]
  | .inr i :: ks => by simp [PyData.depthAll, PyData.depth, depth_keys ks, dKey]
def rSortDT : List V → Hp → VK → Prop := fun vs H Q => ∃ (a : Addr) (kvs : List (List Key × V)), vs = [.ref a] ∧ Rd H a (.dT kvs) ∧ AllAlike (kvs.map fun p => eKey p.1) ∧ Sortable (kvs.map fun p => eKey p.1) ∧
  ∀ p bs, H p = none → IsKeys H kvs bs → Q (.ref p) (upd H p (.lst (((keyZs kvs bs).mergeSort (dataLe false fun z : V × PyData => z.2)).map (·.1))))
theorem cr_sortDT {X : Cx} (hc : X.calm = true) (hu : X.A.units + 64 < cLine) : CallR X (.builtin "sorted") rSortDT := by
  intro pins s σ H vs us Q I r h
  obtain ⟨d, kvs, rfl, hd, hal, hk, q⟩ := h
  obtain ⟨u, rfl, rx⟩ := r.one
  cases rx
  obtain ⟨z, hs, ks, pr, o, es, ep, ho, hx, hdt, he, hn⟩ := (show ObjOk X.prog X.w H s.heap d (.dT kvs) from hd.ok I.hok)
  have l1 : es.size = ks.length := size_of_entries he
  have l2 : kvs.length = ks.length := Paired.length pr
  have ik := isKeys_of pr
  obtain ⟨z1, z2⟩ := keyZs_fst ik
  refine Calls.call_function_entry PyProof.Rows.kind_sorted PyProof.Rows.plain_sorted PyProof.Rows.entry_sorted (PyProof.Rows.args_sorted1 _) ?_
  unfold Builtin.«sorted»
  refine wpAny_bind (m := checkCount "sorted" 1 1 _) (wpAny_pure ?_)
  refine wpAny_bind (PySem.W.kdu_collect (A := X.A.in1) (kdl_raw hs hx hdt) (I.ok.hd hc) ho (by omega) fun h' tk acc hkp it => ?_)
  have ea : acc.toList = ks.map fun x => Value.ref x.2.1 := by
    have hl : acc.toList.length = ks.length := by rw [Array.length_toList, it.1]; exact l1
    apply List.ext_getElem?
    intro j
    rw [List.getElem?_map]
    cases hj : acc.toList[j]? with
    | none =>
      have h1 := List.getElem?_eq_none_iff.mp hj
      rw [List.getElem?_eq_none (by omega)]
      all_goals rfl
    | some v =>
      obtain ⟨en, hen, hv⟩ := it.2 j v (by rw [← Array.getElem?_toList]; exact hj)
      have qe := entry_at he j
      rw [hen] at qe
      cases hb : ks[j]? with
      | none =>
        rw [hb] at qe
        exact nomatch (show some en = none from qe)
      | some b =>
        rw [hb] at qe
        have e2 : en = entryOfKey (tupleKind (mixKind X.prog X.w)) b := Option.some.inj qe
        rw [hv, e2]
        all_goals rfl
  have rv : Vals ((keyZs kvs (ks.map fun x => x.2.1)).map (·.1)) acc.toList := by
    rw [z1, ea]
    have : (ks.map fun x => Value.ref x.2.1) = (ks.map fun x => x.2.1).map Value.ref := by rw [List.map_map]; rfl
    rw [this]; exact vals_refs _
  have I1 : Inv X pins σ H { s with heap := h', toks := tk } := I.kept hkp
  have hall : acc.toList.length ≤ sizeLine := by rw [ea, List.length_map, ← l2]; exact z
  refine wpAny_bind (wpAny_newList ?_ hall)
  have hoL : (h'.push (seqObj "list" acc.toList.toArray 0)).get? h'.objs.size = some (seqObj "list" acc.toList.toArray 0) := Heap.get?_push_size _ rfl
  show wpAny _ _ _ _ _ { s with heap := h'.push (seqObj "list" acc.toList.toArray 0), toks := tk }
  have e := each_vals rv
  have hdp : ∀ zz ∈ keyZs kvs (ks.map fun x => x.2.1), Dp X.K H zz.1 zz.2 := fun zz hzz => by
    obtain ⟨b, k, rfl, hb, _⟩ := keyZs_dp (K := X.K) ik zz hzz
    exact dp_key hb
  have er := each_reads I1 hdp e
  have er2 : EachIs (fun u (zz : V × PyData) => ∃ as, Reads (h'.push (seqObj "list" acc.toList.toArray 0)) u zz.2 as ∧ h'.objs.size ∉ as) acc.toList (keyZs kvs (ks.map fun x => x.2.1)) := by
    refine (PySem.W.each_mem er).mono fun u zz hq => ?_
    obtain ⟨⟨as, hr⟩, hm⟩ := hq
    obtain ⟨b, k, rfl, hb, _⟩ := keyZs_dp (K := X.K) ik zz hm
    have hr2 := PyProof.Rows.Reads.keeps (h' := h'.push (seqObj "list" acc.toList.toArray 0)) (fun b o eo => Heap.get?_push_of_some _ eo) hr
    refine ⟨as, hr2, ?_⟩
    rw [reads_key hr2]; simp
  have hzl : (keyZs kvs (ks.map fun x => x.2.1)).length ≤ sizeLine := by
    have := congrArg List.length z2
    rw [List.length_map, List.length_map] at this
    rw [this]; exact z
  refine wpAny_bind (wpAny_holding (PySem.W.list_sort_data (R := fun u (zz : V × PyData) => RelV zz.1 u) (enc := fun zz : V × PyData => zz.2) (s := { s with heap := h'.push (seqObj "list" acc.toList.toArray 0), toks := tk }) hoL e er2 (by rw [z2]; exact hal) (by rw [z2]; exact hk) hzl (fun zz hzz => ?_) fun out g1 g2 => ?_))
  · obtain ⟨b, k, rfl, hb, _⟩ := keyZs_dp (K := X.K) ik zz hzz
    have : (eKey k).depth = 1 := by simp [eKey, PyData.depth, depth_keys]
    show X.A.in1.units + 1 + (eKey k).depth < cLine
    have : X.A.in1.units = X.A.units + 1 := rfl
    omega
  · obtain ⟨e', he'⟩ := PyProof.Rows.sortedHeap_at (vs := acc.toList) (out := out.toArray) hoL
    have hlen : (((keyZs kvs (ks.map fun x => x.2.1)).mergeSort (dataLe false fun z : V × PyData => z.2)).map (·.1)).length ≤ sizeLine := by rw [List.length_map, (List.mergeSort_perm _ _).length_eq]; exact hzl
    refine wpAny_pure ⟨_, rfl, .ref h'.objs.size, upd H h'.objs.size (.lst (((keyZs kvs (ks.map fun x => x.2.1)).mergeSort (dataLe false fun z : V × PyData => z.2)).map (·.1))), I1.laid (t' := tk) (fun b u e => ?_) (Nat.le_refl _)
      (show ObjOk X.prog X.w _ _ _ (.lst _) from ⟨hlen, out, e', vals_each g2, he'⟩), rfl, q _ _ (I1.hok.fresh (Nat.le_refl _)) ik⟩
    have hb : b < h'.objs.size := Heap.lt_size e
    rw [PyProof.Rows.sortedHeap_old (Nat.ne_of_lt hb) (by rw [size_push']; exact Nat.lt_succ_of_lt hb)]
    exact Heap.get?_push_of_some _ e
end PK
end
section
set_option Elab.async false
set_option linter.all false
set_option maxRecDepth 100000
set_option maxHeartbeats 2000000
/-! More rules: extend by a tuple, update, a tuple times 0 or 1, not in a tuple, a display with one tuple key. -/
namespace PK
open PySem PySem.Spec PyProof.Rows L2
section
variable {X : Cx}
def rExtT (K : PySem.W.Frag) : V → List V → Hp → VK → Prop := fun x vs H Q => ∃ l b xs zs, x = .ref l ∧ vs = [.ref b] ∧ H l = some (.lst xs) ∧ SqT K H b zs ∧ xs.length + zs.length ≤ sizeLine ∧ Q .non (upd H l (.lst (xs ++ zs)))
theorem list_extend_tupleT (l : Addr) (items : Array Value) (n : Nat) (b : Addr) (items2 : Array Value) (n2 : Nat) (dd : Option Addr) (sl : Array (Option Value)) (hs0 : ¬(!items.isEmpty && Builtin.List.listTooLong (items.size + items2.size)) = true) (hs1 : items.size ≤ sizeLine) (hs2 : items.size + items2.size ≤ sizeLine + 1) :
    Meets (Builtin.«list.extend» ⟨[.ref l, .ref b], []⟩) (fun _ R s => s.heap.get? l = some { cls := .type "list", dict := none, data := .seq items n, slots := #[] } ∧ s.heap.get? b = some { cls := .type "tuple", dict := dd, data := .seq items2 n2, slots := sl } ∧ R (.ok (.ret Value.none)) { s with heap := s.heap.update l (Obj.mapSeq fun x => x ++ items2), toks := s.toks }) :=
  .of_wp fun prog w A R s h => by
    obtain ⟨hp, g, d, tk, os⟩ := s; obtain ⟨hl, hb, h⟩ := h; have f1 := AutoSeq1.idx_int; have f2 := AutoSeq1.sub_tuple_tuple; have f3 := AutoSeq1.sub_list_list; have f4 := AutoSeq1.sub_tuple_list; have f5 := AutoSeq1.sub_list_tuple;
    have hz' : (items ++ items2).size ≤ sizeLine + 1 := by rw [Array.size_append]; exact hs2
    wp_walk using (wpAny_updateSeq hl rfl (hz := hs1) (_hz' := hz')), AutoSeq1.wpAny_loadPart' hl, AutoSeq1.wpAny_loadPart' hb; exact ⟨_, rfl, h⟩
theorem mt_extT : MtM X "list.extend" (rExtT X.K) := by
  intro pins s σ H x vs v us Q I rx rv h
  obtain ⟨l, b, xs, zs, rfl, rfl, hH, hB, hz, q⟩ := h
  cases rx
  obtain ⟨u, rfl, ru⟩ := rv.one
  cases ru
  obtain ⟨z, its, n, r, hl, e⟩ := I.lstM hH
  obtain ⟨its2, r2, ⟨⟨cls, dd, data, sl⟩, e2, hc2, n2, hd2⟩, hl2⟩ := I.tuple hB
  simp only at hc2 hd2
  subst hc2 hd2
  have l2 := r2.length
  have hsz : its.toArray.size + its2.toArray.size ≤ sizeLine := by rw [List.size_toArray, List.size_toArray]; omega
  have hlong : ¬ (!its.toArray.isEmpty && Builtin.List.listTooLong (its.toArray.size + its2.toArray.size)) = true := by
    rw [notLongL hsz, Bool.and_false]
    exact Bool.false_ne_true
  refine call_meets F.slot_list_extend ⟨_, e, rfl⟩ F.entry_list_extend (F.args_list_extend_2 _ _)
    (list_extend_tupleT l its.toArray n b its2.toArray n2 dd sl hlong (by rw [List.size_toArray]; omega) (by omega)) ⟨e, e2, ?_⟩
  refine ⟨.non, _, I.lset (its' := its ++ its2) hH e (by simp) (r.append r2) ?_, rfl, q⟩
  rw [List.length_append]
  omega
/-- x not in t, t a tuple of data -/
def rNotInT (K : PySem.W.Frag) : R2 := fun x y H Q => ∃ d ds, Dp K H x d ∧ Dp K H y (.tuple ds) ∧ SeqAt.shaped d = true ∧ SeqAt.shaped (.tuple ds) = true ∧ Q (.bl (!ds.any fun z => PyData.eqv z d)) H
theorem op_notInT (hu : X.A.units + 64 < cLine) (hu2 : X.A.units + 65 < cLine) : OpR X (compareOp .NotIn) (rNotInT X.K) := by
  intro pins s σ H x y v u Q I rx ry h
  obtain ⟨d, ds, hd, he, sd, se, q⟩ := h
  obtain ⟨as, r1⟩ := Dp.reads I d x v hd rx
  obtain ⟨bs, r2⟩ := Dp.reads I (.tuple ds) y u he ry
  exact SeqAt.notIn_tuple_reads r2 r1 (SeqAt.canLay_of_shaped se) (SeqAt.canLay_of_shaped sd) (room_in_shaped sd hu2) ⟨.bl _, H, I, rfl, q⟩
/-- t * 1, t * 0 -/
theorem tuple_mul1 (l : Addr) (items : Array Value) (n : Nat) (dd : Option Addr) (sl : Array (Option Value)) (u : Tok) :
    Meets (Builtin.«tuple.__mul__» ⟨[.ref l, .int 1 u], []⟩) (fun _ R s => s.heap.get? l = some { cls := .type "tuple", dict := dd, data := .seq items n, slots := sl } ∧ R (.ok (.ret (Value.ref l))) s) :=
  .of_wp fun prog w A R s h => by
    obtain ⟨hp, g, d, tk, os⟩ := s
    obtain ⟨hl, h⟩ := h
    have f1 := AutoSeq1.idx_int
    wp_walk using AutoSeq1.wpAny_loadPart' hl
    exact ⟨_, rfl, h⟩
theorem tuple_mul0 (l : Addr) (items : Array Value) (n : Nat) (dd : Option Addr) (sl : Array (Option Value)) (u : Tok) (c1 : (items.isEmpty || (0 : Int) == 1) = false) :
    Meets (Builtin.«tuple.__mul__» ⟨[.ref l, .int 0 u], []⟩) (fun _ R s => s.heap.get? l = some { cls := .type "tuple", dict := dd, data := .seq items n, slots := sl } ∧ R (.ok (.ret (Value.ref s.heap.objs.size))) { s with heap := s.heap.push { cls := .type "tuple", data := .seq #[] } }) :=
  .of_wp fun prog w A R s h => by
    obtain ⟨hp, g, d, tk, os⟩ := s
    obtain ⟨hl, h⟩ := h
    have f1 := AutoSeq1.idx_int
    wp_walk using AutoSeq1.wpAny_loadPart' hl
    refine wpAny_ite_false (decide_eq_false (by rw [c1]; exact Bool.false_ne_true)) ?_
    wp_walk using AutoSeq1.wpAny_loadPart' hl
    exact ⟨_, rfl, h⟩
def rRep01 (K : PySem.W.Frag) : R2 := fun x y H Q => ∃ l k xs, x = .ref l ∧ y = .int k ∧ SqT K H l xs ∧ xs ≠ [] ∧ ((k = 1 ∧ Q (.ref l) H) ∨ (k = 0 ∧ ∀ p, H p = none → Q (.ref p) (upd H p (.tup []))))
theorem op_rep01 : OpR X (binaryOp .Mult) (rRep01 X.K) := by
  intro pins s σ H x y v u Q I rx ry h
  obtain ⟨l, k, xs, rfl, rfl, hT, hne, q⟩ := h
  cases rx
  obtain ⟨t, rfl⟩ := ry
  obtain ⟨its, r, ⟨⟨cls, dd, data, sl⟩, ho, hc, n, hd⟩, hs⟩ := I.tuple hT
  simp only at hc hd
  subst hc hd
  have hle : its.length = xs.length := r.length.symm
  have hn : its ≠ [] := fun e => hne (by
    rw [e] at hle
    exact List.eq_nil_of_length_eq_zero hle.symm)
  have hi : its.toArray.isEmpty = false := by
    cases its with
    | nil => exact absurd rfl hn
    | cons a b => rfl
  refine wpAny_binaryOp_repeat_ref (T := "tuple") (U := "int") (by decide) ⟨_, ho, rfl⟩ (fun s' => typeIs_int s' k t) noFill_tuple_mul F.fills_int_mul F.slot_int_rmul repeat_tuple F.slot_int_index.lookup
    (call_meets F.slot_int_rmul (typeIs_int s k t) F.entry_int_rmul (F.args_int_rmul_2 _ _) (int_rmul_tuple k t l its.toArray n dd sl)
      ⟨ho, rfl, ⟨_, ho, rfl⟩, ?_⟩)
  rcases q with ⟨rfl, q⟩ | ⟨rfl, q⟩
  · exact call_meets F.slot_tuple_mul ⟨_, ho, rfl⟩ F.entry_tuple_mul (F.args_tuple_mul_2 _ _) (tuple_mul1 l its.toArray n dd sl t) ⟨ho, .ref l, H, I, rfl, q⟩
  · refine call_meets F.slot_tuple_mul ⟨_, ho, rfl⟩ F.entry_tuple_mul (F.args_tuple_mul_2 _ _) (tuple_mul0 l its.toArray n dd sl t (by rw [hi]; rfl)) ⟨ho, ?_⟩
    refine ⟨.ref s.heap.objs.size, _, I.laid (t' := s.toks) (o := .tup []) (fun b ob q => Heap.get?_push_of_some _ q) (Nat.le_refl _) ?_, rfl, q _ (I.hok.fresh (Nat.le_refl _))⟩
    exact ⟨Nat.zero_le _, [], .nil, IsTup.new _ _⟩
/-- d.update(e), both with keys ints and texts -/
def tDUpd (td te : TE) : TE := fun σ H Q => td σ H fun x H1 => ∃ a, x = .ref a ∧ IsD H1 a ∧ te σ H1 fun y H2 => ∃ (b : Addr) (kvs more : List (Key × V)), y = .ref b ∧ a ≠ b ∧ H2 a = some (.dK kvs) ∧ Rd H2 b (.dK more) ∧ kvs.length + more.length ≤ sizeLine ∧ Q .non (upd H2 a (.dK (mergeK kvs more)))
theorem pe_dupd {o e : Expr} {td te : TE} {apos cpos : Pos} (ho : PE X o td) (he : PE X e te) (m : M1 X o "update" apos e cpos) : PE X (.Call (.Attribute o "update" apos) [e] [] cpos) (tDUpd td te) := by
  refine ⟨fun pins s σ H Q I h => ?_⟩
  refine wpAny_Call_method m.base m.few m.line PySem.F.plainAttrs_dict PySem.F.slot_dict_update PySem.F.type_dict_update (thn (ho.run pins s σ H _ I h) fun u s1 ⟨x, H1, I1, rx, a, ex, d, q1⟩ => ?_)
  subst ex
  obtain rfl : u = Value.ref a := rx
  obtain ⟨t1, t2, _⟩ := isD_at I1 d
  refine ⟨t1, t2, ?_⟩
  rw [m.trees]
  refine Calls.callWith_builtin rfl (Calls.evalArgs_plain (Calls.spliced_cons (thn (he.run pins s1 σ H1 _ I1 q1) fun iv s2 ⟨y, H2, I2, ry, b, kvs, more, ey, hab, ha, hb, hl, q2⟩ => Calls.spliced_nil ?_)))
  subst ey
  cases (show iv = Value.ref b from ry)
  obtain ⟨z, hd, vs, rel, dd⟩ := dk_of I2.hok ha
  obtain ⟨z2, hd2, ms, rel2, dd2⟩ := dk_rd I2.hok hb
  have hz : vs.length + ms.length ≤ sizeLine := by rw [← rel.length, ← rel2.length]; exact hl
  refine call_meetsIn PySem.F.slot_dict_update dd.typeIs PySem.F.entry_dict_update (PySem.F.args_dict_update_2 _ _) (meets_dict_update (mixKind X.prog X.w) a b hab hd2) ⟨vs, ms, dd, dd2, hz, fun h' dd' _ hs => ?_⟩
  have he' : ∃ q, h'.get? a = some q := let ⟨q, _, _, hq, _⟩ := dd'; ⟨q, hq⟩
  have hz3 : (mergeK kvs more).length ≤ sizeLine := Nat.le_trans (length_mergeK more kvs) hl
  exact ⟨.non, _, d_write (t' := s2.toks) I2 (by rw [ha]; exact True.intro) hs he' (dk_new hz3 hd (rel2.merge rel) dd'), rfl, q2⟩
/-- {t: v}, t a tuple -/
def tDisp1 (tk tv : TE) : TE := fun σ H Q => ∀ p, H p = none → tk σ (upd H p (.dT [])) fun x H1 => tv σ H1 fun y H2 => H2 p = some (.dT []) ∧ ∃ (k : List Key) (b : Addr), x = .ref b ∧ H2 b = some (.tup (k.map kV)) ∧ Q (.ref p) (upd H2 p (.dT [(k, y)]))
theorem pe_disp1 {k v : Expr} {pos : Pos} {tk tv : TE} (hu : X.A.units + 1 < cLine) (hk : PE X k tk) (hv : PE X v tv) : PE X (.Dict [some k] [v] pos) (tDisp1 tk tv) := by
  refine ⟨fun pins s σ H Q I q => ?_⟩
  have hn := I.hok.fresh (Nat.le_refl s.heap.objs.size)
  have I1 := I.laid (a := s.heap.objs.size) (o := .dT []) (h' := s.heap.push { cls := .type "dict", data := .dict #[] }) (t' := s.toks) (fun _ _ q => Heap.get?_push_of_some _ q) (Nat.le_refl _) (dt_empty s.heap I.big)
  rw [arm_eval_Dict, zip_pairTrees [some k] [v] X.env pos rfl rfl, dictDisplay_pairs (pairTrees [some k] [v] X.env pos) (by simp [pairTrees]) (by simp [pairTrees])]
  refine wpAny_bind (wpAny_standAt (wpAny_bind (wpAny_subDictH (knd := tupleKind (mixKind X.prog X.w)) (Q := fun d s' => wpAny (model X.prog X.w) X.A (pure (Value.ref d)) (EP X pins σ Q) X.xe s') (show (tupleKind (mixKind X.prog X.w)).room X.A from (Nat.lt_of_succ_lt hu : X.A.units < cLine)) (by simp [pairTrees]) ?_)))
  refine pairTrees_cons_walk (thn (hk.run pins _ σ _ _ I1 (q _ hn)) fun u s1 ⟨x, H1, I2, rx, q1⟩ => thn (hv.run pins s1 σ H1 _ I2 q1) fun w2 s2 ⟨y, H2, I3, ry, e, kk, b, ex, eb, q2⟩ => pairTrees_nil_walk ?_)
  subst ex
  cases (show u = Value.ref b from rx)
  obtain ⟨z, hd, xs, rel, dd⟩ := dt_of I3.hok e
  cases rel
  refine ⟨[(kk, b, w2)], ⟨rfl, rfl, key_of I3.hok eb, True.intro⟩, dd, fun h' tk dd' hs => wpAny_pure ?_⟩
  have rel2 : KT H2 [(kk, y)] [(kk, b, w2)] := .cons ⟨rfl, eb, ry⟩ .nil
  obtain ⟨o, es, ep, ho, x2, x3, x4, _, x5⟩ := dd'
  have new : ObjOk X.prog X.w (upd H2 s.heap.objs.size (.dT [(kk, y)])) h' s.heap.objs.size (.dT [(kk, y)]) := by
    refine ⟨by show 1 ≤ sizeLine; decide, hd, _, KT.keeps rel2 fun c ys ec => ?_, o, es, ep, ho, x2, x3, x4, x5⟩
    rw [upd_ne (ne_of ec e (fun z => nomatch z))]
    exact ec
  exact ⟨.ref s.heap.objs.size, _, d_write I3 (by rw [e]; exact True.intro) hs ⟨o, ho⟩ new, rfl, q2⟩
end
end PK
end
section
set_option Elab.async false
set_option linter.all false
set_option maxRecDepth 100000
set_option maxHeartbeats 4000000
/-! Sets of texts, made of a list; sorted(set(xs)). -/
namespace PK
open PySem PySem.Spec PyProof.Rows L2
section
def txOf (e : Int × Value) : Str := match e.2 with | .str k _ => k | _ => Str.empty
def GoodX (w : World) (e : Int × Value) : Prop := ∃ k tk, e.2 = Value.str k tk ∧ e.1 = hashStr w k

/-- the set of ints at a: S its members, n their number; its table rises and can be walked -/
def SetX (w : World) (h : Heap) (a : Addr) (S : Str → Bool) (n : Nat) : Prop :=
  ∃ o es ep t, h.get? a = some o ∧ o.ExactSet ∧ o.data = .set es ep t ∧ (∀ e ∈ es.toList, GoodX w e) ∧ (es.toList.map txOf).Nodup ∧ (∀ k, S k = true ↔ k ∈ es.toList.map txOf) ∧
    es.size < scanBound ∧ t.fits es.size = true ∧ es.size = n ∧ Ris t.place.toList ∧ (w.params.followText "set-order" = true ∨ t.led = true)

section
variable {P : Program} {w : World} {h h' : Heap} {a : Addr} {S : Str → Bool} {n : Nat}

theorem SetX.at (R : SetX w h a S n) (k : ∀ o, h.get? a = some o → h'.get? a = some o) : SetX w h' a S n := by
  obtain ⟨o, es, ep, t, ho, r⟩ := R
  exact ⟨o, es, ep, t, k o ho, r⟩
theorem SetX.lt (R : SetX w h a S n) : a < h.objs.size := by
  obtain ⟨o, es, ep, t, ho, r⟩ := R
  exact Heap.lt_size ho
theorem SetX.congr {S' : Str → Bool} (R : SetX w h a S n) (e : ∀ k, S' k = S k) : SetX w h a S' n := by
  have q : S' = S := funext e
  rw [q]; exact R
theorem goodx_elems {l : List (Int × Value)} (g : ∀ e ∈ l, GoodX w e) : ElemsOf (strKind P w) l := fun e he => by
  obtain ⟨k, tk, h1, h2⟩ := g e he
  exact ⟨⟨k, by rw [h1]; exact strKind_is P w k tk, h2⟩, by rw [h1] <;> rfl⟩
theorem goodx_is {e : Int × Value} (g : GoodX w e) (k : Str) : (strKind P w).is k e.2 = true ↔ txOf e = k := by
  obtain ⟨k0, tk, h1, _⟩ := g
  unfold txOf
  rw [h1]
  show ((k0 == k) = true) ↔ k0 = k
  exact beq_iff_eq
theorem goodx_mem {l : List (Int × Value)} (g : ∀ e ∈ l, GoodX w e) (k : Str) : k ∈ l.map txOf ↔ ∃ e ∈ l, (strKind P w).is k e.2 = true := by
  rw [List.mem_map]
  constructor
  · rintro ⟨e, he, q⟩
    exact ⟨e, he, (goodx_is (g e he) k).2 q⟩
  · rintro ⟨e, he, q⟩
    exact ⟨e, he, (goodx_is (g e he) k).1 q⟩
theorem SetX.setOf (R : SetX w h a S n) : h.SetOf (strKind P w) a S n := by
  obtain ⟨o, es, ep, t, ho, hx, hd, g, nd, hm, hb, hf, hn, _⟩ := R
  exact ⟨o, es, ep, t, ho, hx, hd, goodx_elems g, fun k => (hm k).trans (goodx_mem g k), hb, hf, hn⟩
end

section
variable {P : Program} {w : World} {A : Around} {E : Value → Shared → Prop} {s : Shared} {a : Addr} {S : Str → Bool} {n : Nat}

theorem setX_add_tail {g : Bool → Sem Unit} (hg : ∀ (b : Bool) (s₁ : Shared) (Q' : Unit → Shared → Prop), Q' () s₁ → wpAny (model P w) A (g b) Q' E s₁)
    {o : Obj} {es : Array (Int × Value)} {ep : Nat} {t : SetTable} (ho : s.heap.get? a = some o) (hex : o.ExactSet) (hd : o.data = .set es ep t)
    {es1 : Array (Int × Value)} {t2 : SetTable} {S' : Str → Bool} (g1 : ∀ e ∈ es1.toList, GoodX w e) (nd1 : (es1.toList.map txOf).Nodup) (m1 : ∀ k, S' k = true ↔ k ∈ es1.toList.map txOf)
    (hb1 : es1.size < scanBound) (hf2 : t2.fits es1.size = true) (hr : Ris t2.place.toList) (hl : w.params.followText "set-order" = true ∨ t2.led = true) {wasDummy : Bool} {R : Option Bool → Shared → Prop}
    (hR : ∀ h', Heap.SameBut a s.heap h' → SetX w h' a S' es1.size → R (some true) { s with heap := h' }) :
    wpAny (model P w) A (do
        storeSet a es1 t2
        if (!wasDummy && t2.tooFull) = true then do
            g (relayAll t2 es1 (SetTable.grown es1.size)).2.2
            storeSet a (relayAll t2 es1 (SetTable.grown es1.size)).1 (relayAll t2 es1 (SetTable.grown es1.size)).2.1
            pure (some true)
          else pure (some true)) R E s := by
  refine wpAny_bind (wpAny_storeSet_of ho hd ?_ (fits_of_scanBound hb1))
  have ho1 := store_at (es' := es1) (t' := t2) ho hd
  have sb1 := Heap.SameBut.update s.heap a (Obj.putSet es1 t2)
  split
  · have pm := relayAll_perm t2 es1 (SetTable.grown es1.size)
    have hf3 := relayAll_fits t2 es1 (SetTable.grown es1.size)
    have hr3 := relayAll_ris t2 es1 (SetTable.grown es1.size)
    have hl3 := relayAll_led t2 es1 (SetTable.grown es1.size)
    generalize relayAll t2 es1 (SetTable.grown es1.size) = Z at pm hf3 hr3 hl3 ⊢
    obtain ⟨es2, t3, gave⟩ := Z
    dsimp only at pm hf3 hr3 hl3 ⊢
    have hsz : es2.size = es1.size := by rw [← Array.length_toList, pm.length_eq, Array.length_toList]
    have hb2 : es2.size < scanBound := by rw [hsz]; exact hb1
    refine wpAny_bind (hg _ _ _ ?_)
    refine wpAny_bind (wpAny_storeSet_of ho1 rfl ?_ (fits_of_scanBound hb2))
    have ho2 := store_at (es' := es2) (t' := t3) ho1 rfl
    refine wpAny_pure (hR _ (sb1.trans (Heap.SameBut.update _ a _)) ?_)
    exact ⟨_, es2, _, t3, ho2, hex, rfl, fun e he => g1 e (pm.mem_iff.mp he), (pm.map txOf).nodup_iff.mpr nd1, fun k => (m1 k).trans (pm.map txOf).mem_iff.symm, hb2, hf3, hsz, hr3,
      hl.imp id fun z => by rw [hl3]; exact z⟩
  · exact wpAny_pure (hR _ sb1 ⟨_, es1, _, t2, ho1, hex, rfl, g1, nd1, m1, hb1, hf2, rfl, hr, hl⟩)

theorem setX_add_hashed {k : Str} {tk : Tok} {Q : Bool → Shared → Prop} (R : SetX w s.heap a S n) (room : n + 1 < scanBound)
    (hQ : ∀ h', Heap.SameBut a s.heap h' → SetX w h' a (fun j => S j || decide (j = k)) (if S k = true then n else n + 1) → Q (!S k) { s with heap := h' }) :
    wpAny (model P w) A (setAddHashed a (.str k tk) ((strKind P w).hash k)) Q E s := by
  obtain ⟨o, es, ep, t, ho, hex, hd, g, nd, hm, hb, hf, hn, hr, hl⟩ := R
  have hkey : (strKind P w).is k (.str k tk) = true := strKind_is P w k tk
  have hsc : (Value.str k tk).scannable = true := rfl
  have hel : ElemsOf (strKind P w) es.toList := goodx_elems g
  unfold setAddHashed setAddHashedIn
  refine wpAny_holding (wpAny_bind (wpAny_setState_of ho hd hf ?_))
  dsimp only
  rw [byScan_of hsc hb hel]
  simp only [↓reduceIte]
  unfold setAddByScan
  refine wpAny_bind ?_
  refine wpAny_bind (wpAny_rule ?_)
  refine wpAny_bind (wpAny_setScan_of hkey ho hd hf hel ?_)
  cases hfi : List.findIdx? (fun e => (strKind P w).is k e.2) es.toList with
  | some j =>
    dsimp only
    obtain ⟨hj, pj, _⟩ := List.findIdx?_eq_some_iff_getElem.mp hfi
    have hSk : S k = true := (hm k).2 ((goodx_mem (P := P) (w := w) g k).2 ⟨es.toList[j], List.getElem_mem hj, pj⟩)
    refine wpAny_pure (wpAny_pure ?_)
    have q := hQ s.heap (Heap.SameBut.refl a s.heap) ⟨o, es, ep, t, ho, hex, hd, g, nd, fun i => by
      rw [Bool.or_eq_true, decide_eq_true_eq, ← hm i]
      exact ⟨fun z => z.elim id (fun e => e ▸ hSk), .inl⟩, hb, hf, by rw [if_pos hSk]; exact hn, hr, hl⟩
    rw [hSk] at q
    exact q
  | none =>
    dsimp only
    have hnk : k ∉ es.toList.map txOf := fun z => by
      obtain ⟨e, he, q⟩ := (goodx_mem (P := P) (w := w) g k).1 z
      have c := List.findIdx?_eq_none_iff.mp hfi e he
      rw [q] at c
      cases c
    have hSk : S k = false := by
      cases q : S k with
      | false => rfl
      | true => exact absurd ((hm k).1 q) hnk
    have hgw : ∀ (b : Bool) {s₁ : Shared} {Q' : Unit → Shared → Prop}, Q' () s₁ → wpAny (model P w) A (match b with | true => rule "set.scan.the-table-gave-way" | false => pure ()) Q' E s₁ :=
      fun b s₁ Q' q => by cases b <;> first | exact wpAny_pure q | exact wpAny_rule q
    have pm := layNew_perm t es ((strKind P w).hash k) (.str k tk)
    have hf1 := layNew_fits t es ((strKind P w).hash k) (.str k tk)
    have hr1 := layNew_ris t es ((strKind P w).hash k) (.str k tk) hr
    have hl1 := layNew_led t es ((strKind P w).hash k) (.str k tk)
    generalize layNew t es ((strKind P w).hash k) (.str k tk) = Z at pm hf1 hr1 hl1 ⊢
    obtain ⟨es1, t1, wasDummy, gave⟩ := Z
    dsimp only at pm hf1 hr1 hl1 ⊢
    rw [Array.toList_push] at pm
    have pc : es1.toList.Perm (((strKind P w).hash k, Value.str k tk) :: es.toList) := pm.trans (List.perm_append_singleton _ _)
    have pk : (es1.toList.map txOf).Perm (k :: es.toList.map txOf) := pc.map txOf
    have g1 : ∀ e ∈ es1.toList, GoodX w e := fun e he => by
      rcases List.mem_cons.mp (pc.mem_iff.mp he) with z | z
      · rw [z]; exact ⟨k, tk, rfl, rfl⟩
      · exact g e z
    have nd1 : (es1.toList.map txOf).Nodup := pk.nodup_iff.mpr (List.nodup_cons.mpr ⟨hnk, nd⟩)
    have m1 : ∀ i, (S i || decide (i = k)) = true ↔ i ∈ es1.toList.map txOf := fun i => by
      rw [Bool.or_eq_true, decide_eq_true_eq, hm i, pk.mem_iff, List.mem_cons]
      exact Or.comm
    have hsz : es1.size = n + 1 := by rw [← Array.length_toList, pc.length_eq, List.length_cons, Array.length_toList, hn]
    have hb1 : es1.size < scanBound := by rw [hsz]; exact room
    have hled : w.params.followText "set-order" = true ∨ t1.led = true := hl.imp id fun z => by rw [hl1]; exact z
    have fin : ∀ h', Heap.SameBut a s.heap h' → SetX w h' a (fun j => S j || decide (j = k)) es1.size → Q true { s with heap := h' } := fun h' sb r => by
      have q := hQ h' sb
      rw [hSk] at q
      rw [hsz] at r
      exact q r
    refine wpAny_bind (hgw _ ?_)
    split
    · refine wpAny_bind ?_
      rw [hashByValue_scannable 8 hsc]
      refine wpAny_pure ?_
      refine setX_add_tail ?_ ho hex hd g1 nd1 m1 hb1 ?_ ?_ ?_ ?_
      · intro b s₁ Q' q; cases b <;> first | exact wpAny_pure q | exact wpAny_rule q
      · first | (split <;> first | exact hf1 | exact SetTable.fits_plain_off hf1) | exact hf1
      · first | (split <;> exact hr1) | exact hr1
      · first | (split <;> exact hled) | exact hled
      · intro h' sb r; dsimp only; exact wpAny_pure (fin h' sb r)
    · refine wpAny_bind (wpAny_pure ?_)
      simp only [↓reduceIte]
      refine setX_add_tail ?_ ho hex hd g1 nd1 m1 hb1 hf1 hr1 hled ?_
      · intro b s₁ Q' q; cases b <;> first | exact wpAny_pure q | exact wpAny_rule q
      · intro h' sb r; dsimp only; exact wpAny_pure (fin h' sb r)

end
section
variable {P : Program} {w : World} {A : Around} {E : Value → Shared → Prop} {s : Shared}
theorem setX_new_at {w : World} {h : Heap} {a : Addr} {ns : List Str} (ho : h.get? a = some { cls := .type "set", dict := none, data := .set #[] 0 (.fresh 0 0 (!w.params.followText "set-order")) }) : SetX w h a (fun j => decide (j ∈ ns.take 0)) 0 :=
  ⟨_, #[], 0, _, ho, ⟨rfl, rfl, rfl⟩, rfl, (fun e he => by simp at he), (by simp), (fun k => by simp), (by decide), (by rfl), rfl, List.Pairwise.nil, by
    show _ ∨ (!w.params.followText "set-order") = true
    cases w.params.followText "set-order"
    · exact .inr rfl
    · exact .inl rfl⟩
theorem set_update_txs {I : Addr} {fp wr : List Addr} {G : Array GenState → Array GenState → Prop} {n : Nat} {Pv : Nat → Value → Prop} {St : Nat → Shared → Prop} {R : Result → Shared → Prop}
    (W : WalksS P w A.in1 I fp wr G n Pv St) (S : Addr) (hSf : S ∉ fp) (ns : List Str) (hn : n = ns.length) (hb : ns.length + 1 < scanBound) (hval : ∀ i v, Pv i v → ∃ k t, ns[i]? = some k ∧ v = .str k t) :
    ∀ (k i : Nat) (s : Shared), n - i = k → i ≤ n → St i s → (∃ c, c ≤ i ∧ SetX w s.heap S (fun j => decide (j ∈ ns.take i)) c) →
      (∀ s' c, Moved (S :: wr) G s s' → c ≤ n → SetX w s'.heap S (fun j => decide (j ∈ ns)) c → R (.ok (.ret .none)) s') →
      codeAny (model P w) A (.builtin "set.update.loop" ⟨[.ref S, .ref I], []⟩) R s := by
  have hSw : S ∉ wr := fun h => hSf (W.sub _ h)
  have hsub : ∀ b ∈ wr, b ∈ S :: wr := fun b hb => List.mem_cons_of_mem _ hb
  intro k
  induction k with
  | zero =>
    intro i s hk' hi hst ⟨c, hc, hS⟩ hR
    have hin : i = n := by omega
    subst hin
    refine codeAny_builtin F.entry_set_update_loop ?_
    rw [Around.under_plainId F.plain_set_update_loop _]
    show wpAny _ A.in1 (pyNext (.ref I) >>= _) _ _ s
    refine wpAny_bind (W.done s _ _ hst fun s' hm => ?_)
    show wpAny _ A.in1 (ret Value.none) _ _ s'
    have e : ns.take i = ns := List.take_of_length_le (by omega)
    rw [e] at hS
    exact wpAny_pure (hR s' c (hm.mono hsub) hc (hS.at fun o e => hm.heap S o hSw e))
  | succ k ih =>
    intro i s hk' hi hst ⟨c, hc, hS⟩ hR
    have hlt : i < n := by omega
    refine codeAny_builtin F.entry_set_update_loop ?_
    rw [Around.under_plainId F.plain_set_update_loop _]
    show wpAny _ A.in1 (pyNext (.ref I) >>= _) _ _ s
    refine wpAny_bind (W.item i s _ _ hlt hst fun v s' hP hst' hm => ?_)
    obtain ⟨z, t, hz, rfl⟩ := hval i v hP
    have hS' : SetX w s'.heap S (fun j => decide (j ∈ ns.take i)) c := hS.at fun o e => hm.heap S o hSw e
    show wpAny _ A.in1 (holding [Value.str z t] (setAdd S (.str z t)) >>= _) _ _ s'
    refine wpAny_bind (wpAny_holding ?_)
    unfold setAdd
    refine wpAny_holding ?_
    refine wpAny_bind ((strKind P w).pyHash (k := z) (strKind_is _ _ _ _) ?_)
    refine setX_add_hashed (s := { s' with toks := s'.toks + 1 }) hS' (by omega) fun h' hsb hS2 => ?_
    have hS3 : SetX w h' S (fun j => decide (j ∈ ns.take (i + 1))) (if decide (z ∈ ns.take i) = true then c else c + 1) := hS2.congr fun j => by
      rw [List.take_add_one, hz]
      simp [List.mem_append]
    have hc3 : (if decide (z ∈ ns.take i) = true then c else c + 1) ≤ i + 1 := by
      split <;> omega
    refine wpAny_pure ⟨plainId_quiet F.plain_set_update_loop _, ih (i + 1) _ (by omega) hlt (W.frame _ s' _ _ hst' (Nat.le_succ _) fun b hb o e => ?_) ⟨_, hc3, hS3⟩ fun s'' c2 hm'' hc'' hS'' => ?_⟩
    · rw [hsb.2 b (fun h : b = S => hSf (by rw [← h]; exact hb))]; exact e
    · refine hR s'' c2 (Moved.trans W.gtrans ((hm.mono hsub).then_heap (Nat.le_succ _) fun b o hb e => ?_) hm'') hc'' hS''
      rw [hsb.2 b (fun h : b = S => hb (by rw [h]; exact List.mem_cons_self))]; exact e

set_option maxRecDepth 100000 in
set_option maxHeartbeats 3200000 in
theorem call_set_lstX {l : Addr} {items : Array Value} (ns : List Str) {Q : Value → Shared → Prop} (hh : A.handled = none) (hl : s.heap.IsList l items) (hit : StrsAre items.toList ns) (hb : ns.length + 1 < scanBound)
    (h : ∀ (h' : Heap) (tk c : Nat), SetX w h' s.heap.objs.size (fun j => decide (j ∈ ns)) c → c ≤ ns.length → (∀ b o, s.heap.get? b = some o → h'.get? b = some o) → Q (.ref s.heap.objs.size) { s with heap := h', toks := tk }) :
    wpAny (model P w) A (call (.type "set") [.ref l]) Q E s := by
  have hisz : items.size = ns.length := by
    have q := PyProof.Rows.StrsAre.len_eq hit
    rw [Array.length_toList] at q
    exact q
  obtain ⟨c, tl, hmro⟩ := F.called_set.mro
  have hmade := F.called_set.made
  have hsub := F.called_set.sub
  refine wpAny_call (codeAny_of_tree ?_)
  show wpAny _ _ (callAny (.type "set") _) _ _ _
  refine wpAny_pure ⟨Code.quiet_builtin _ (by decide +kernel), codeAny_builtin F.entry_type_call ?_⟩
  rw [Around.under_plain (weight_type_call_type "set" [.ref l] []) rfl]
  have h1 := F.called_set.notType
  have h2 := F.called_set.canCreate
  have hct := F.typeCall_set_1 (.ref l)
  repeat (any_goals (first | assumption | wp_step))

  refine codeAny_mono (code_set_led1 (.ref l) (E := E) (Q₁ := fun obj s₁ => obj = .ref s.heap.objs.size ∧ s₁ = { s with heap := s.heap.push { cls := .type "set", dict := none, data := .set #[] 0 (.fresh 0 0 (!w.params.followText "set-order")) } }) ⟨rfl, rfl⟩) fun r s₁ hr => ?_
  cases r with
  | error e => exact hr
  | ok fl =>
    cases fl with
    | ret obj =>
      obtain ⟨rfl, rfl⟩ := hr
      have hS : (s.heap.push { cls := .type "set", dict := none, data := .set #[] 0 (.fresh 0 0 (!w.params.followText "set-order")) }).get? s.heap.objs.size = some { cls := .type "set", dict := none, data := .set #[] 0 (.fresh 0 0 (!w.params.followText "set-order")) } := Heap.get?_push_size _ rfl
      have hT : Shared.TypeIs { s with heap := s.heap.push { cls := .type "set", dict := none, data := .set #[] 0 (.fresh 0 0 (!w.params.followText "set-order")) } } (.ref s.heap.objs.size) "set" := ⟨_, hS, rfl⟩
      have hli := F.called_set.init.lookup
      have hbi := F.called_set.init.bind (.ref s.heap.objs.size)
      repeat (any_goals (first | assumption | wp_step))

      refine codeAny_mono (codeAny_call_builtin (R := wants (fun r s₂ => r = .none ∧ ∃ h' tk c, s₂ = { s with heap := h', toks := tk } ∧ SetX w h' s.heap.objs.size (fun j => decide (j ∈ ns)) c ∧ c ≤ ns.length ∧
          (∀ b o, s.heap.get? b = some o → h'.get? b = some o)) E) F.called_set.init.plain F.entry_set_init (check_set_init_1 hT ?_)) fun r₂ s₂ hr₂ => ?_
      · obtain ⟨ol, hol, hcl, nl, hdl⟩ := hl
        obtain ⟨ocls, odict, odata, oslots⟩ := ol
        simp only at hcl hdl
        subst hcl; subst hdl
        have hol' : (s.heap.push { cls := .type "set", dict := none, data := .set #[] 0 (.fresh 0 0 (!w.params.followText "set-order")) }).get? l = some { cls := .type "list", dict := odict, data := .seq items nl, slots := oslots } := Heap.get?_push_of_some _ hol
        have hsls := F.sub_list_set
        have hslf := F.sub_list_frozenset
        have hne : (Value.type "list" == Value.type "dict") = false := by decide
        have hl1 : (s.heap.push { cls := .type "set", dict := none, data := .set #[] 0 (.fresh 0 0 (!w.params.followText "set-order")) }).IsList l items := ⟨_, hol', rfl, nl, rfl⟩
        unfold Builtin.«set.__init__» noKeywords Builtin.Frozenset.updateFrom
        generalize hPI : pyIter = PI
        wp_walk
        subst hPI

        refine wpAny_pyIter_list hl1 ?_
        refine wpAny_bind (wpAny_runValue ?_)
        have hlS : l < s.heap.objs.size := Heap.lt_size hol
        have hh3 : A.in1.in1.in1.handled = none := by simp [hh]
        have hz1 : (s.heap.push { cls := .type "set", dict := none, data := .set #[] 0 (.fresh 0 0 (!w.params.followText "set-order")) }).objs.size = s.heap.objs.size + 1 := Heap.size_push ..
        have hneI : l ≠ (s.heap.push { cls := .type "set", dict := none, data := .set #[] 0 (.fresh 0 0 (!w.params.followText "set-order")) }).objs.size := by
          rw [Heap.size_push]; exact Nat.ne_of_lt (Nat.lt_succ_of_lt hlS)
        have hSf : s.heap.objs.size ∉ [(s.heap.push { cls := .type "set", dict := none, data := .set #[] 0 (.fresh 0 0 (!w.params.followText "set-order")) }).objs.size, l] := by
          rw [Heap.size_push]; simp only [List.mem_cons, List.mem_singleton, List.not_mem_nil, or_false, not_or]
          exact ⟨Nat.ne_of_lt (Nat.lt_succ_self _), Nat.ne_of_gt hlS⟩
        have hval : ∀ (i : Nat) (v : Value), items[i]? = some v → ∃ k t, ns[i]? = some k ∧ v = .str k t := fun i v hv => by
          have hi : i < ns.length := by rw [← hisz]; exact (Array.getElem?_eq_some_iff.mp hv).1
          obtain ⟨t, e⟩ := SS.strs_at hit i v (by rw [Array.getElem?_toList]; exact hv)
          refine ⟨ns[i], t, List.getElem?_eq_getElem hi, ?_⟩
          rw [e, List.getD_eq_getElem?_getD, List.getElem?_eq_getElem hi] <;> rfl
        refine set_update_txs ((Walks.list hh3 _ l hneI items).toS) s.heap.objs.size
          hSf ns hisz hb hval (items.size - 0) 0 _ (by omega) (Nat.zero_le _)
          ⟨⟨_, Heap.get?_push_size _ rfl, rfl, rfl⟩, (hl1.push _)⟩ ?hS0 ?hR
        case hS0 =>
          have hget : ((s.heap.push { cls := .type "set", dict := none, data := .set #[] 0 (.fresh 0 0 (!w.params.followText "set-order")) }).push { cls := .type "list_iterator", data := .fields #[.ref l, .int 0 0] }).get? s.heap.objs.size
              = some { cls := .type "set", dict := none, data := .set #[] 0 (.fresh 0 0 (!w.params.followText "set-order")) } := Heap.get?_push_of_some _ hS
          exact ⟨0, Nat.le_refl 0, setX_new_at hget⟩
        case hR =>
          intro s' c' hm hc' hS'
          obtain ⟨h', g2, d', tk', os'⟩ := s'
          have eg : g2 = s.gens := hm.gens
          have ed : d' = s.drawn := hm.drawn
          have eo : os' = s.os := hm.os
          subst eg; subst ed; subst eo
          show wpAny _ _ _ _ _ _
          refine wpAny_pure ?_
          show wpAny _ _ (ret Value.none) _ _ _
          rw [hisz] at hc'
          refine wpAny_pure ⟨rfl, h', tk', c', rfl, hS', hc', fun b o e => ?_⟩
          have hb0 : b < s.heap.objs.size := Heap.lt_size e
          have hb1 : b ≠ s.heap.objs.size := Nat.ne_of_lt hb0
          have hb2 : b ≠ (s.heap.push { cls := .type "set", dict := none, data := .set #[] 0 (.fresh 0 0 (!w.params.followText "set-order")) }).objs.size := by
            rw [Heap.size_push]; exact Nat.ne_of_lt (Nat.lt_succ_of_lt hb0)
          exact hm.heap b o (by simp only [List.mem_cons, List.mem_singleton, List.not_mem_nil, or_false, not_or]; exact ⟨hb1, hb2⟩) (Heap.get?_push_of_some _ (Heap.get?_push_of_some _ e))

      · cases r₂ with
        | error e => exact hr₂
        | ok fl₂ =>
          cases fl₂ with
          | ret r =>
            obtain ⟨rfl, h', tk, c', rfl, hS', hc', hk'⟩ := hr₂
            repeat (any_goals (first | assumption | wp_step))
            exact h _ _ _ hS' hc' hk'
          | _ => exact hr₂.elim
    | _ => exact hr.elim

end
end
end PK
end
section
set_option Elab.async false
set_option linter.all false
set_option maxRecDepth 100000
set_option maxHeartbeats 4000000
namespace PK
open PySem PySem.Spec PyProof.Rows L2

/-! ### sorted(set(xs)) -/
def dStr (x : Str) : PyData := .str x
theorem reads_txs : ∀ (l : List Value), (∀ v ∈ l, ∃ k tk, v = Value.str k tk) → PySem.W.EachIs (fun u (x : Str) => ∃ t, u = Value.str x t) l (l.map fun v => txOf (0, v))
  | [], _ => .nil
  | v :: l, h => by
    obtain ⟨k, tk, rfl⟩ := h v List.mem_cons_self
    exact .cons ⟨tk, rfl⟩ (reads_txs l fun u hu => h u (List.mem_cons_of_mem _ hu))
section
variable {P : Program} {w : World} {A : Around} {E : Value → Shared → Prop} {s : Shared} {a : Addr}
theorem alike_strs (l : List Str) : PySem.W.AllAlike (l.map dStr) := PySem.W.AllAlike.of fun b b' => by simp [dStr, PySem.W.alike]
theorem sortable_strs (l : List Str) : PySem.W.Sortable (l.map dStr) := PySem.W.Sortable.others fun b => ⟨(fun z => nomatch z), (fun xs z => nomatch z)⟩
theorem sorted_setX {S : Str → Bool} {n : Nat} {Q : Value → Shared → Prop} (R : SetX w s.heap a S n) (hh : A.handled = none) (hu : A.units + 64 < cLine) (hn1000 : n ≤ 1000)
    (hQ : ∀ s' p (out : List Value) (c : Nat) (xs : List Str), (∀ b o, s.heap.get? b = some o → s'.heap.get? b = some o) → s'.gens = s.gens → s'.os = s.os → s.heap.objs.size ≤ p →
      s'.heap.get? p = some (seqObj "list" out.toArray c) → PySem.W.EachIs (fun u (x : Str) => ∃ t, u = Value.str x t) out (xs.mergeSort (PySem.W.dataLe false dStr)) → xs.Nodup → (∀ k, k ∈ xs ↔ S k = true) → xs.length = n → Q (.ref p) s') :
    wpAny (model P w) A (call (.builtin "sorted") [.ref a]) Q E s := by
  obtain ⟨o, es, ep, t, ho, hex, hd, g, nd, hm, hb, hf, hn, hr, hl⟩ := R
  refine Calls.call_function_entry kind_sorted plain_sorted entry_sorted (args_sorted1 _) ?_
  unfold Builtin.«sorted»
  refine wpAny_bind (m := checkCount "sorted" 1 1 _) (wpAny_pure ?_)
  refine wpAny_bind (collect_set (A := A.in1) hh ⟨o, ho, hex.1, hd⟩ hf hb hr hl fun s1 vs k1 hz g1 o1 pm => ?_)
  have hvl : vs.length = n := by rw [pm.length_eq, List.length_map, Array.length_toList]; exact hn
  have hI := reads_txs vs fun v hv => by
    obtain ⟨e, he, q⟩ := List.mem_map.mp (pm.mem_iff.mp hv)
    obtain ⟨k, tk, h1, _⟩ := g e he
    exact ⟨k, tk, by rw [← q]; exact h1⟩
  have pk : (vs.map fun v => txOf (0, v)).Perm (es.toList.map txOf) := by
    have q := pm.map fun v => txOf (0, v)
    rw [List.map_map] at q
    exact q
  refine wpAny_bind (wpAny_newList ?_ (by rw [hvl, sizeLine_eq]; omega))
  have hoL : (s1.heap.push (seqObj "list" vs.toArray 0)).get? s1.heap.objs.size = some (seqObj "list" vs.toArray 0) := Heap.get?_push_size _ rfl
  refine wpAny_bind (wpAny_holding (PySem.W.list_sort_data (R := fun u (x : Str) => ∃ t, u = Value.str x t) (enc := dStr) (s := { s1 with heap := s1.heap.push (seqObj "list" vs.toArray 0) }) hoL hI (hI.mono fun u x ⟨t, e⟩ => ⟨[], by rw [e]; exact .str x t, by simp⟩) (alike_strs _) (sortable_strs _) (by rw [List.length_map, hvl, sizeLine_eq]; omega) (fun b _ => by
    have : (dStr b).depth = 0 := rfl
    have h2 : A.in1.units = A.units + 1 := rfl
    omega) fun out g1' g2 => ?_))
  obtain ⟨c, hc⟩ := sortedHeap_at (vs := vs) (out := out.toArray) hoL
  refine wpAny_pure ⟨_, rfl, hQ _ s1.heap.objs.size out c (vs.map fun v => txOf (0, v)) (fun b u e => ?_) g1 o1 hz hc g2 (pk.nodup_iff.mpr nd) (fun k => by rw [pk.mem_iff, ← hm k]) (by rw [List.length_map]; exact hvl)⟩
  have q := k1 b u e
  have hlt := Heap.lt_size q
  show (sortedHeap (s1.heap.push (seqObj "list" vs.toArray 0)) s1.heap.objs.size vs out.toArray).get? b = some u
  rw [sortedHeap_old (Nat.ne_of_lt hlt) (by rw [size_push']; exact Nat.lt_succ_of_lt hlt)]
  exact Heap.get?_push_of_some _ q
end
/-- the set of texts at a -/
def SetXO (w : World) (a : Addr) (S : Str → Bool) (n : Nat) : HO := .ext fun h => SetX w h a S n
section
variable {X : Cx}
theorem setX_new_ {w : World} {P : Program} {H : Hp} {h : Heap} {a : Addr} {S : Str → Bool} {n : Nat} (R : SetX w h a S n) : ObjOk P w H h a (SetXO w a S n) := by
  have ⟨o, _, _, _, ho, _⟩ := R
  exact ⟨R, ⟨o, ho⟩, fun h1 h2 p k => SetX.at p k⟩
def rSetX (K : PySem.W.Frag) (w : World) : List V → Hp → VK → Prop := fun vs H Q => ∃ (l : Addr) (xs : List Str), vs = [.ref l] ∧ SqL K H l (xs.map V.str) ∧ xs.length ≤ 1000 ∧ ∀ p n, H p = none → n ≤ xs.length → Q (.ref p) (upd H p (SetXO w p (fun j => decide (j ∈ xs)) n))
theorem cr_setX (hc : X.calm = true) : CallR X (.type "set") (rSetX X.K X.w) := by
  intro pins s σ H vs us Q I r h
  obtain ⟨l, xs, rfl, hs, hz, q⟩ := h
  obtain ⟨u, rfl, rx⟩ := r.one
  cases rx
  obtain ⟨its, rv, hl, _⟩ := I.list hs
  have hi : StrsAre its.toArray.toList xs := by simpa using L2.strsAre_of rv
  refine call_set_lstX xs (I.ok.hd hc) hl.isList hi (by unfold scanBound; omega) fun h' tk c hS hcl hk => ?_
  exact ⟨.ref s.heap.objs.size, upd H s.heap.objs.size (SetXO X.w s.heap.objs.size (fun j => decide (j ∈ xs)) c), I.laid (t' := tk) hk (Nat.le_refl _) (setX_new_ hS), rfl, q _ c (I.hok.fresh (Nat.le_refl _)) hcl⟩
def rSortX (w : World) : List V → Hp → VK → Prop := fun vs H Q => ∃ (a : Addr) (S : Str → Bool) (n : Nat), vs = [.ref a] ∧ H a = some (SetXO w a S n) ∧ n ≤ 1000 ∧
  ∀ (xs : List Str) (p : Addr), xs.Nodup → (∀ k, k ∈ xs ↔ S k = true) → xs.length = n → H p = none → Q (.ref p) (upd H p (.lst ((xs.mergeSort (PySem.W.dataLe false dStr)).map V.str)))
theorem vals_strs : ∀ {us : List Value} {xs : List Str}, PySem.W.EachIs (fun u (x : Str) => ∃ t, u = Value.str x t) us xs → Vals (xs.map V.str) us
  | _, _, .nil => .nil
  | _, _, .cons h t => .cons h (vals_strs t)
theorem cr_sortX (hc : X.calm = true) (hu : X.A.units + 64 < cLine) : CallR X (.builtin "sorted") (rSortX X.w) := by
  intro pins s σ H vs us Q I r h
  obtain ⟨a, S, n, rfl, ha, hn, q⟩ := h
  have R : SetX X.w s.heap a S n := (I.hok a _ ha).1
  rw [Vals.ref1 r]
  refine sorted_setX R (I.ok.hd hc) hu hn fun s' p out c xs k g o hp hg hi hs hm hl => ?_
  have hlen : ((xs.mergeSort (PySem.W.dataLe false dStr)).map V.str).length ≤ sizeLine := by rw [List.length_map, (List.mergeSort_perm _ _).length_eq, hl, sizeLine_eq]; omega
  have hn' : H p = none := I.hok.fresh hp
  have J : Inv X pins σ (upd H p (.lst ((xs.mergeSort (PySem.W.dataLe false dStr)).map V.str))) { s with heap := s'.heap, gens := s'.gens, drawn := s'.drawn, toks := s'.toks } :=
    I.call (ch := []) (Un.laid k hp hn') (I.hok.laid k hp ⟨hlen, out, c, vals_strs hi, hg⟩) (by rw [g]; exact I.bare) (fun _ z => nomatch z)
  have e : s' = { s with heap := s'.heap, gens := s'.gens, drawn := s'.drawn, toks := s'.toks } := by
    cases s'
    cases s
    cases o
    rfl
  rw [e]
  exact ⟨.ref p, _, J, rfl, q xs p hs hm hl hn'⟩
end
end PK
end
section
set_option Elab.async false
set_option linter.all false
set_option maxRecDepth 100000
set_option maxHeartbeats 2000000
/-! The layer: results that come with cells; owned lists; cells weakened, opened, in another order; sorted, min, update, locks. -/
namespace PK
open PySem PySem.Spec PyProof.Rows L2
open PM (aget aput keys)
open PySem.W (AllAlike Sortable dataLe)

/-! ### what comes with cells -/
def tDX (sl : SL) (hp : List Cell) (P : RtP) : TE := fun σ H Q => ∃ Z B, Sat Z B H hp ∧ SatS B σ sl ∧ ∀ v B' H' hp', Same B B' → Sat Z B' H' hp' → P v B' hp' → Q v H'
abbrev DX (X : Cx) (e : Expr) (sl : SL) (hp : List Cell) (P : RtP) : Prop := PE X e (tDX sl hp P)
theorem dx_of {X : Cx} {e : Expr} {sl : SL} {hp hp1 : List Cell} {A : MA} (h : DE X e sl hp A hp1) : DX X e sl hp (fun v B hp' => A.p v B ∧ hp' = hp1) :=
  pe_imp h fun σ H Q ⟨Z, B, S, T, k⟩ => ⟨Z, B, S, T, fun v B' H' m S' q => k v B' H' hp1 m S' ⟨q, rfl⟩⟩
theorem dx_imp {X : Cx} {e : Expr} {sl : SL} {hp : List Cell} {P P' : RtP} (h : DX X e sl hp P) (i : ∀ v B hp', P v B hp' → P' v B hp') : DX X e sl hp P' :=
  pe_imp h fun σ H Q ⟨Z, B, S, T, k⟩ => ⟨Z, B, S, T, fun v B' H' hp' m S' q => k v B' H' hp' m S' (i v B' hp' q)⟩
/-- a tuple, its items told one by one -/
def tupA (As : List MA) : MA := ⟨fun v B => ∃ a xs, v = .ref a ∧ B a = some (.tup xs) ∧ All2 B xs As, fun e ⟨a, xs, h1, h2, h3⟩ => ⟨a, xs, h1, e _ _ h2, h3.mono e⟩⟩
theorem tupA_of {ds : List PyData} {v : V} {B : Hp} (h : (isD (.tuple ds)).p v B) : (tupA (ds.map isD)).p v B := by
  cases h with
  | tup h r => exact ⟨_, _, rfl, h, isD_all2 r⟩
section
variable {X : Cx} {own0 : List Addr} {sl : SL} {hp hp1 hp2 : List Cell} {A C : MA} {Nx : NxP} {Rt : RtP} {rest sts : List Stmt} {e o i value tg : Expr} {es : List Expr} {pos pos' p apos cpos : Pos} {x y z u : Str} {k j n : Nat} {a : Addr} {ds : List PyData} {d : PyData}
theorem dx_call {γ : Type} {As : γ → List MA} {hpf : γ → List Cell} {pre : γ → Prop} {post : γ → RtP} {fr : List Cell} (c : C8.Cal X.prog X.w X.K X.mg X.base k x (spOf As hpf pre post) []) (hr : Room j X.A) (hk : k ≤ j) (y : γ) (hy : pre y) (ha : DA X (e :: es) sl hp (As y) (hpf y ++ fr))
    (hg : Gl X x := by rfl) (hdb : (x == ("__debug__" : Str)) = false := by decide) (he : starEach (e :: es) X.env = (false, eval e X.env) :: starEach es X.env := by rfl) (hpl : (backTo pos (starEach es X.env)).any (·.1) = false := by rfl) :
    DX X (.Call (.Name x p) (e :: es) [] pos) sl hp (fun v B hp' => ∃ hq, post y v B hq ∧ hp' = hq ++ fr) :=
  pe_imp (C8.pe_c c hr hk hg ha hdb he hpl) fun σ H Q ⟨Z, B, S, T, k⟩ => ⟨Z, B, S, T, fun vs B1 H1 m1 S1 q1 => ⟨y, B1, hy, by rw [List.append_nil]; exact q1, S1.enter, fun v B' H' hp' S' q =>
    k v B' H' (hp' ++ fr) (m1.trans S'.b0) (S1.call S') ⟨hp', q, rfl⟩⟩⟩
theorem dss_setX {α : Type} {P : RtP} {As : α → MA} {Cs : α → List Cell} {i : Nat} (he : DX X e sl hp P) (hP : ∀ v B hp', P v B hp' → ∃ x, (As x).p v B ∧ hp' = Cs x) (hr : ∀ x, DSs X own0 rest (sl.set i (some (As x))) (Cs x) Nx Rt) (hN : X.N.Nodup) (hi : X.N[i]? = some x := by rfl) (hx : Loc X.env.scope x := by first | exact Or.inl rfl | exact Or.inr rfl)
    (hs : swapsWith e (some (.Name x pos')) pos.line X.env = pure false := by rfl) (hf : X.fn x = true ∨ X.env.scope.names.lookup x = some .local := by first | exact .inl rfl | exact .inr rfl | assumption) :
    DSs X own0 (.Assign [.Name x pos'] e pos :: rest) sl hp Nx Rt :=
  pss_imp (pss_cons (ps_set hN hi hx he hs hf) (pss_ex hr)) fun D σ H ⟨Z, B, z, S, T, k, r⟩ => ⟨Z, B, S, T, fun v B1 H1 hp' m1 S1 q1 => by
    obtain ⟨w, h1, rfl⟩ := hP v B1 hp' q1
    exact ⟨w, Z, B1, z, S1, (T.mono m1).set h1 i, fun σ' B' H' s h m => k σ' B' H' s h (m1.trans m), fun v B' H' h m => r v B' H' h (m1.trans m)⟩⟩
theorem dss_retX {P : RtP} (he : DX X e sl hp P) (h : ∀ v B hp', P v B hp' → Rt v B hp') : DSs X own0 (.Return (some e) pos :: rest) sl hp Nx Rt :=
  pss_imp (pss_cons (ps_ret he) pss_never) fun D σ H ⟨Z, B, z, S, T, k, r⟩ => ⟨Z, B, S, T, fun v B1 H1 hp' m1 S1 q1 => r v B1 H1 hp' m1 S1 (h v B1 hp' q1)⟩
theorem dss_exprX {α : Type} {P : RtP} {Cs : α → List Cell} (he : DX X e sl hp P) (hP : ∀ v B hp', P v B hp' → ∃ x, hp' = Cs x) (hr : ∀ x, DSs X own0 rest sl (Cs x) Nx Rt) (hs : swapsWith e none pos.line X.env = pure false := by rfl) : DSs X own0 (.Expr e pos :: rest) sl hp Nx Rt :=
  pss_imp (pss_cons (ps_expr he hs) (pss_ex hr)) fun D σ H ⟨Z, B, z, S, T, k, r⟩ => ⟨Z, B, S, T, fun v B1 H1 hp' m1 S1 q1 => by
    obtain ⟨w, rfl⟩ := hP v B1 hp' q1
    exact ⟨w, Z, B1, z, S1, T.mono m1, fun σ' B' H' s h m => k σ' B' H' s h (m1.trans m), fun v B' H' h m => r v B' H' h (m1.trans m)⟩⟩
/-- targets of tuples told one by one -/
theorem dgA2 {A1 A2 : MA} {p1 p2' : Pos} {kk j1 j2 : Nat} (hc : X.calm = true) (h1 : ∀ A, PG X (.Name x p1) (tDG A [j1] [A])) (h2 : ∀ A, PG X (.Name y p2') (tDG A [j2] [A])) : PG X (.Tuple [.Name x p1, .Name y p2'] kk pos) (tDG (tupA [A1, A2]) [j1, j2] [A1, A2]) :=
  pg_imp (pg_tup (n := 2) hc (pgs_cons (h1 A1) (pgs_cons (h2 A2) pgs_nil))) fun v σ H Q ⟨B, m, ⟨a, xs, e, h, r⟩, k⟩ => by
    subst e
    cases r with
    | cons r1 r =>
      cases r with
      | cons r2 r =>
        cases r
        exact ⟨_, _, rfl, SqT.of (m _ _ h), rfl, _, _, rfl, B, m, r1, fun vs hv => by
          obtain ⟨v1, rfl, q1⟩ := all2_one hv
          exact ⟨_, _, rfl, B, m, r2, fun ws hw => by
            obtain ⟨v2, rfl, q2⟩ := all2_one hw
            exact ⟨rfl, k [v1, v2] (.cons q1 (.cons q2 .nil))⟩⟩⟩
theorem dgA3 {A1 A2 A3 : MA} {p1 p2' p3 : Pos} {kk j1 j2 j3 : Nat} (hc : X.calm = true) (h1 : ∀ A, PG X (.Name x p1) (tDG A [j1] [A])) (h2 : ∀ A, PG X (.Name y p2') (tDG A [j2] [A])) (h3 : ∀ A, PG X (.Name z p3) (tDG A [j3] [A])) : PG X (.Tuple [.Name x p1, .Name y p2', .Name z p3] kk pos) (tDG (tupA [A1, A2, A3]) [j1, j2, j3] [A1, A2, A3]) :=
  pg_imp (pg_tup (n := 3) hc (pgs_cons (h1 A1) (pgs_cons (h2 A2) (pgs_cons (h3 A3) pgs_nil)))) fun v σ H Q ⟨B, m, ⟨a, xs, e, h, r⟩, k⟩ => by
    subst e
    cases r with
    | cons r1 r =>
      cases r with
      | cons r2 r =>
        cases r with
        | cons r3 r =>
          cases r
          exact ⟨_, _, rfl, SqT.of (m _ _ h), rfl, _, _, rfl, B, m, r1, fun vs hv => by
            obtain ⟨v1, rfl, q1⟩ := all2_one hv
            exact ⟨_, _, rfl, B, m, r2, fun ws hw => by
              obtain ⟨v2, rfl, q2⟩ := all2_one hw
              exact ⟨_, _, rfl, B, m, r3, fun us hu => by
                obtain ⟨v3, rfl, q3⟩ := all2_one hu
                exact ⟨rfl, k [v1, v2, v3] (.cons q1 (.cons q2 (.cons q3 .nil)))⟩⟩⟩⟩
theorem dgA4 {A1 A2 A3 A4 : MA} {p1 p2' p3 p4 : Pos} {kk j1 j2 j3 j4 : Nat} (hc : X.calm = true) (h1 : ∀ A, PG X (.Name x p1) (tDG A [j1] [A])) (h2 : ∀ A, PG X (.Name y p2') (tDG A [j2] [A])) (h3 : ∀ A, PG X (.Name z p3) (tDG A [j3] [A])) (h4 : ∀ A, PG X (.Name u p4) (tDG A [j4] [A])) : PG X (.Tuple [.Name x p1, .Name y p2', .Name z p3, .Name u p4] kk pos) (tDG (tupA [A1, A2, A3, A4]) [j1, j2, j3, j4] [A1, A2, A3, A4]) :=
  pg_imp (pg_tup (n := 4) hc (pgs_cons (h1 A1) (pgs_cons (h2 A2) (pgs_cons (h3 A3) (pgs_cons (h4 A4) pgs_nil))))) fun v σ H Q ⟨B, m, ⟨a, xs, e, h, r⟩, k⟩ => by
    subst e
    cases r with
    | cons r1 r =>
      cases r with
      | cons r2 r =>
        cases r with
        | cons r3 r =>
          cases r with
          | cons r4 r =>
            cases r
            exact ⟨_, _, rfl, SqT.of (m _ _ h), rfl, _, _, rfl, B, m, r1, fun vs hv => by
              obtain ⟨v1, rfl, q1⟩ := all2_one hv
              exact ⟨_, _, rfl, B, m, r2, fun ws hw => by
                obtain ⟨v2, rfl, q2⟩ := all2_one hw
                exact ⟨_, _, rfl, B, m, r3, fun us hu => by
                  obtain ⟨v3, rfl, q3⟩ := all2_one hu
                  exact ⟨_, _, rfl, B, m, r4, fun ts ht => by
                    obtain ⟨v4, rfl, q4⟩ := all2_one ht
                    exact ⟨rfl, k [v1, v2, v3, v4] (.cons q1 (.cons q2 (.cons q3 (.cons q4 .nil))))⟩⟩⟩⟩⟩
/-- a, b = e -/
theorem dss_unp {α : Type} {P : RtP} {As : α → List MA} {Cs : α → List Cell} {js : List Nat} (he : DX X e sl hp P) (hP : ∀ v B hp', P v B hp' → ∃ x, (tupA (As x)).p v B ∧ hp' = Cs x) (hg : ∀ x, PG X tg (tDG (tupA (As x)) js (As x))) (hr : ∀ x, DSs X own0 rest (setSL sl js (As x)) (Cs x) Nx Rt)
    (hs : swapsWithSole [tg] e pos.line X.env = pure false := by rfl) (hw : swappedStores [tg] e X.env = pure none := by rfl) (h1 : (assignEach [tg] X.env).map (·.2) = [assign tg X.env] := by rfl) : DSs X own0 (.Assign [tg] e pos :: rest) sl hp Nx Rt :=
  pss_imp (pss_cons (ps_asg (g := fun v σ H Q => ∃ x, tDG (tupA (As x)) js (As x) v σ H Q) he (pg_ex hg) hs hw h1) (pss_ex hr)) fun D σ H ⟨Z, B, z, S, T, k, r⟩ => ⟨Z, B, S, T, fun v B1 H1 hp' m1 S1 q1 => by
    obtain ⟨w, h1, rfl⟩ := hP v B1 hp' q1
    exact ⟨w, B1, S1.bh, h1, fun vs hv => ⟨w, Z, B1, z, S1, (T.mono m1).setAll hv, fun σ' B' H' s h m => k σ' B' H' s h (m1.trans m), fun v B' H' h m => r v B' H' h (m1.trans m)⟩⟩⟩
/-- a, b = e, data -/
theorem dss_unpD {ds : List PyData} {js : List Nat} (he : DE X e sl hp (isD (.tuple ds)) hp1) (hg : PG X tg (tDG (tupA (ds.map isD)) js (ds.map isD))) (hr : DSs X own0 rest (setSL sl js (ds.map isD)) hp1 Nx Rt)
    (hs : swapsWithSole [tg] e pos.line X.env = pure false := by rfl) (hw : swappedStores [tg] e X.env = pure none := by rfl) (h1 : (assignEach [tg] X.env).map (·.2) = [assign tg X.env] := by rfl) : DSs X own0 (.Assign [tg] e pos :: rest) sl hp Nx Rt :=
  dss_unp (α := Unit) (As := fun _ => ds.map isD) (Cs := fun _ => hp1) (dx_of he) (fun v B hp' h => ⟨(), tupA_of h.1, h.2⟩) (fun _ => hg) (fun _ => hr) hs hw h1

/-! ### lists that the code owns: read, written -/
theorem de_ixOwn {i' : Int} (j : Nat) (hj : hp[j]? = some ⟨a, oL ds⟩) (h : atI ds i' = some d) (ho : DE X o sl hp (isV (.ref a)) hp) (hi : DE X i sl hp (isI i') hp) (hs : PlainIx i := by exact fun _ _ => rfl) : DE X (.Subscript o i pos) sl hp (isD d) hp :=
  pe_imp (pe_ix ix_list ho hi hs) fun σ H Q ⟨Z, B, S, T, k⟩ => ⟨Z, B, S, T, fun v B1 H1 m1 S1 q1 => ⟨Z, B1, S1, T.mono m1, fun w B2 H2 m2 S2 q2 => by
    have q1' : v = .ref a := q1
    subst q1'
    cases q2
    obtain ⟨u, hu, xs, rfl, r⟩ := S2.at hj
    unfold atI at h
    rw [← r.length] at h
    cases e : ixN xs.length i' with
    | none => rw [e] at h; cases h
    | some jj =>
      rw [e] at h
      obtain ⟨v, h2, h3⟩ := r.get h
      exact ⟨a, xs, i', v, rfl, rfl, SqL.of hu, by unfold atI; rw [e]; exact h2, k _ B2 H2 (m1.trans m2) S2 h3⟩⟩⟩
/-- len of an owned list -/
theorem de_lenOwn (j : Nat) (hj : hp[j]? = some ⟨a, oL ds⟩) (hm : X.mg "len" = none) (hb : bootBuiltins "len" = some (.builtin "len")) (ho : DE X o sl hp (isV (.ref a)) hp) (hg : Gl X "len" := by rfl) (he : starEach [o] X.env = (false, eval o X.env) :: starEach [] X.env := by rfl) (hpl : (backTo pos (starEach [] X.env)).any (·.1) = false := by rfl) : DE X (.Call (.Name "len" p) [o] [] pos) sl hp (isI (ds.length : Int)) hp :=
  pe_imp (pe_callB call_len_seq hg hm hb (da_cons ho da_nil he) (by decide) (by decide) he hpl) fun σ H Q ⟨Z, B, S, T, k⟩ => ⟨Z, B, S, T, fun vs B1 H1 m1 S1 q1 => by
    obtain ⟨v, rfl, qv⟩ := all2_one q1
    have qv' : v = .ref a := qv
    subst qv'
    obtain ⟨u, hu, xs, rfl, r⟩ := S1.at hj
    exact ⟨a, xs, rfl, .inl (SqL.of hu), k _ B1 H1 m1 S1 (by rw [r.length]; exact .int _)⟩⟩
end
end PK
end
section
set_option Elab.async false
set_option linter.all false
set_option maxRecDepth 100000
set_option maxHeartbeats 2000000
/-! The layer: cells told another way, in another order; lists written, extended; sorted, min, update. -/
namespace PK
open PySem PySem.Spec PyProof.Rows L2
open PM (aget aput keys)
open PySem.W (AllAlike Sortable dataLe)

def exO {α : Type} (f : α → MO) : MO := ⟨fun o B => ∃ x, (f x).p o B, fun m ⟨x, h⟩ => ⟨x, (f x).mono m h⟩⟩
section
variable {Z : Fx} {B H : Hp} {hp hp' : List Cell}
theorem Sat.retell (S : Sat Z B H hp) {j : Nat} {c : Cell} (hj : hp[j]? = some c) {mo : MO} (hm : ∀ o, H c.a = some o → c.mo.p o B → mo.p o B) : Sat Z B H (hp.set j ⟨c.a, mo⟩) := by
  obtain ⟨c1, c2, o, c3, c4, c5⟩ := S.ow c (List.mem_of_getElem? hj)
  refine ⟨S.b0, S.bh, S.nb, S.fr, S.st, fun q hq => ?_, by rw [map_set_a hj]; exact S.nd, S.on⟩
  rcases List.mem_or_eq_of_mem_set hq with h | h
  · exact S.ow q h
  · subst h; exact ⟨c1, c2, o, c3, hm o c3 c4, c5⟩
theorem Sat.perm (S : Sat Z B H hp) (p : hp.Perm hp') : Sat Z B H hp' :=
  ⟨S.b0, S.bh, S.nb, S.fr, S.st, fun q hq => S.ow q (p.mem_iff.mpr hq), (p.map _).nodup_iff.mp S.nd, S.on⟩
end
theorem set_self {hp : List Cell} {j : Nat} {c : Cell} (hj : hp[j]? = some c) : hp.set j c = hp := by
  apply List.ext_getElem?
  intro i
  by_cases e : j = i
  · subst e; rw [List.getElem?_set_self (List.getElem?_eq_some_iff.mp hj).1, hj]
  · rw [List.getElem?_set_ne e]
section
variable {X : Cx} {own0 : List Addr} {sl : SL} {hp hp' hp1 hp1' : List Cell} {A C : MA} {Nx : NxP} {Rt : RtP} {rest sts : List Stmt} {e o i value tg : Expr} {es : List Expr} {pos pos' p apos cpos : Pos} {x : Str} {k j n : Nat} {a : Addr} {ds : List PyData} {d : PyData}
theorem dss_openC {α : Type} {f : α → MO} (j : Nat) (hj : hp[j]? = some ⟨a, exO f⟩) (h : ∀ x, DSs X own0 sts sl (hp.set j ⟨a, f x⟩) Nx Rt) : DSs X own0 sts sl hp Nx Rt :=
  pss_imp (pss_ex h) fun D σ H ⟨Z, B, z, S, T, k, r⟩ => by
    obtain ⟨o, h1, x, h2⟩ := S.at hj
    exact ⟨x, Z, B, z, S.retell hj (mo := f x) (fun u hu _ => by rw [h1] at hu; cases hu; exact h2), T, k, r⟩
theorem dss_wkC {mo mo' : MO} (j : Nat) (hj : hp[j]? = some ⟨a, mo⟩) (hm : ∀ o B, mo.p o B → mo'.p o B) (h : DSs X own0 sts sl (hp.set j ⟨a, mo'⟩) Nx Rt) : DSs X own0 sts sl hp Nx Rt :=
  pss_imp h fun D σ H ⟨Z, B, z, S, T, k, r⟩ => ⟨Z, B, z, S.retell hj (fun u _ q => hm u B q), T, k, r⟩
theorem dss_perm (pm : hp.Perm hp') (h : DSs X own0 sts sl hp' Nx Rt) : DSs X own0 sts sl hp Nx Rt :=
  pss_imp h fun D σ H ⟨Z, B, z, S, T, k, r⟩ => ⟨Z, B, z, S.perm pm, T, k, r⟩
theorem de_perm (pm : hp.Perm hp') (pm1 : hp1'.Perm hp1) (h : DE X e sl hp' A hp1') : DE X e sl hp A hp1 :=
  pe_imp h fun σ H Q ⟨Z, B, S, T, k⟩ => ⟨Z, B, S.perm pm, T, fun v B' H' m S' q => k v B' H' m (S'.perm pm1) q⟩
/-- xs[i] = e, xs owned -/
theorem dss_setIx {i' : Int} {jj : Nat} (j : Nat) (hj : hp1[j]? = some ⟨a, oL ds⟩) (hix : ixN ds.length i' = some jj) (he : DE X e sl hp (isD d) hp1) (ho : DE X o sl hp1 (isV (.ref a)) hp1) (hi : DE X i sl hp1 (isI i') hp1) (hr : DSs X own0 rest sl (hp1.set j ⟨a, oL (ds.set jj d)⟩) Nx Rt)
    (hg : ∀ v, assign (.Subscript o i pos') X.env v = (do
      let ov ← holding [v] (eval o X.env)
      let iv ← holding [v, ov] (eval i X.env)
      standAt pos'
      holding [v, ov, iv] (setItem ov iv v)
      release [v, ov, iv] []) := by intro _; rfl)
    (hs : swapsWithSole [.Subscript o i pos'] e pos.line X.env = pure false := by rfl) (hw : swappedStores [.Subscript o i pos'] e X.env = pure none := by rfl) (h1 : (assignEach [.Subscript o i pos'] X.env).map (·.2) = [assign (.Subscript o i pos') X.env] := by rfl) : DSs X own0 (.Assign [.Subscript o i pos'] e pos :: rest) sl hp Nx Rt :=
  pss_imp (pss_cons (ps_asg he (pg_sub ho hi set_list hg) hs hw h1) hr) fun D σ H ⟨Z, B, z, S, T, k, r⟩ => ⟨Z, B, S, T, fun v B1 H1 m1 S1 q1 => ⟨Z, B1, S1, T.mono m1, fun u B2 H2 m2 S2 q2 => ⟨Z, B2, S2, T.mono (m1.trans m2), fun w B3 H3 m3 S3 q3 => by
    have q2' : u = .ref a := q2
    subst q2'
    cases q3
    obtain ⟨u0, hu0, xs, rfl, xr⟩ := S3.at hj
    refine ⟨a, xs, i', jj, rfl, rfl, hu0, by rw [xr.length]; exact hix, Z, B3, z, S3.write hj (o := .lst (xs.set jj v)) (mo := oL (ds.set jj d)) ⟨_, rfl, ?_⟩, T.mono (m1.trans (m2.trans m3)), fun σ' B' H' s h m => k σ' B' H' s h (m1.trans (m2.trans (m3.trans m))), fun v B' H' h m => r v B' H' h (m1.trans (m2.trans (m3.trans m)))⟩
    have vr : Rp B3 v d := ((show Rp B1 v d from q1).mono m2).mono m3
    have : ∀ {xs : List V} {ds : List PyData} {jj : Nat}, RpL B3 xs ds → RpL B3 (xs.set jj v) (ds.set jj d) := by
      intro xs
      induction xs with
      | nil => intro ds jj h; cases h; exact .nil
      | cons y ys ih =>
        intro ds jj h
        cases h with
        | cons h1 h2 =>
          cases jj with
          | zero => exact .cons vr h2
          | succ jj => exact .cons h1 (ih h2)
    exact this xr⟩⟩⟩
/-- xs.extend(ys), xs owned, ys a list of data -/
theorem dss_extL {es' : List PyData} (j : Nat) (ho : DE X o sl hp (isV (.ref a)) hp) (he : DE X e sl hp (isD (.list es')) hp) (hj : hp[j]? = some ⟨a, oL ds⟩) (hz : ds.length + es'.length ≤ 1000000) (hr : DSs X own0 rest sl (hp.set j ⟨a, oL (ds ++ es')⟩) Nx Rt) (hs : swapsWith (.Call (.Attribute o "extend" apos) [e] [] cpos) none pos.line X.env = pure false := by rfl)
    (hm : PE X (.Call (.Attribute o "extend" apos) [e] [] cpos) (tBM X.K "list" rExtend (tDE sl hp (isV (.ref a)) hp) (tDA sl hp [isD (.list es')] hp))) : DSs X own0 (.Expr (.Call (.Attribute o "extend" apos) [e] [] cpos) pos :: rest) sl hp Nx Rt :=
  pss_imp (pss_cons (ps_expr hm hs) hr) fun D σ H ⟨Z, B, z, S, T, k, r⟩ => ⟨Z, B, S, T, fun v B1 H1 m1 S1 q1 => by
    have q1' : v = .ref a := q1
    subst q1'
    obtain ⟨u, hu, us, rfl, ur⟩ := S1.at hj
    refine ⟨Or.inl ⟨rfl, us, SqL.of hu⟩, Z, B1, S1, T.mono m1, fun ws B2 H2 m2 S2 q2 => ?_⟩
    obtain ⟨w, rfl, hw⟩ := all2_one q2
    cases hw with
    | lst h1 wr =>
      obtain ⟨u2, hu2, us2, rfl, ur2⟩ := S2.at hj
      rename_i b zs
      refine ⟨a, b, us2, zs, rfl, rfl, hu2, S2.bh _ _ h1, by rw [ur2.length, wr.length]; exact Nat.le_trans hz (by decide), Z, B2, z, S2.write hj (o := .lst (us2 ++ zs)) (mo := oL (ds ++ es')) ⟨_, rfl, ur2.append wr⟩, T.mono (m1.trans m2), fun σ' B' H' s h m => k σ' B' H' s h (m1.trans (m2.trans m)), fun v B' H' h m => r v B' H' h (m1.trans (m2.trans m))⟩⟩
theorem dss_extT {es' : List PyData} (j : Nat) (ho : DE X o sl hp (isV (.ref a)) hp) (he : DE X e sl hp (isD (.tuple es')) hp) (hj : hp[j]? = some ⟨a, oL ds⟩) (hz : ds.length + es'.length ≤ 1000000) (hr : DSs X own0 rest sl (hp.set j ⟨a, oL (ds ++ es')⟩) Nx Rt) (hs : swapsWith (.Call (.Attribute o "extend" apos) [e] [] cpos) none pos.line X.env = pure false := by rfl)
    (hm : PE X (.Call (.Attribute o "extend" apos) [e] [] cpos) (tBM X.K "list" (rExtT X.K) (tDE sl hp (isV (.ref a)) hp) (tDA sl hp [isD (.tuple es')] hp))) : DSs X own0 (.Expr (.Call (.Attribute o "extend" apos) [e] [] cpos) pos :: rest) sl hp Nx Rt :=
  pss_imp (pss_cons (ps_expr hm hs) hr) fun D σ H ⟨Z, B, z, S, T, k, r⟩ => ⟨Z, B, S, T, fun v B1 H1 m1 S1 q1 => by
    have q1' : v = .ref a := q1
    subst q1'
    obtain ⟨u, hu, us, rfl, ur⟩ := S1.at hj
    refine ⟨Or.inl ⟨rfl, us, SqL.of hu⟩, Z, B1, S1, T.mono m1, fun ws B2 H2 m2 S2 q2 => ?_⟩
    obtain ⟨w, rfl, hw⟩ := all2_one q2
    cases hw with
    | tup h1 wr =>
      obtain ⟨u2, hu2, us2, rfl, ur2⟩ := S2.at hj
      rename_i b zs
      refine ⟨a, b, us2, zs, rfl, rfl, hu2, SqT.of (S2.bh _ _ h1), by rw [ur2.length, wr.length]; exact Nat.le_trans hz (by decide), Z, B2, z, S2.write hj (o := .lst (us2 ++ zs)) (mo := oL (ds ++ es')) ⟨_, rfl, ur2.append wr⟩, T.mono (m1.trans m2), fun σ' B' H' s h m => k σ' B' H' s h (m1.trans (m2.trans m)), fun v B' H' h m => r v B' H' h (m1.trans (m2.trans m))⟩⟩
end

/-! ### sorted -/
def srt {α : Type} (enc : α → PyData) (l : List α) : List α := l.mergeSort (dataLe false enc)
theorem srt_map {α : Type} (enc : α → PyData) (l : List α) : (srt enc l).map enc = (l.map enc).mergeSort (dataLe false id) := List.map_mergeSort fun a _ b _ => rfl
theorem srt_perm {α : Type} (enc : α → PyData) (l : List α) : (srt enc l).Perm l := List.mergeSort_perm _ _
theorem rpl_zip {B : Hp} : ∀ {xs : List V} {ds : List PyData}, RpL B xs ds → (∀ z ∈ xs.zip ds, Rp B z.1 z.2) ∧ (xs.zip ds).map (·.1) = xs ∧ (xs.zip ds).map (·.2) = ds
  | _, _, .nil => ⟨(fun z h => by cases h), rfl, rfl⟩
  | _, _, .cons h t => by
    obtain ⟨h1, h2, h3⟩ := rpl_zip t
    refine ⟨fun z hz => ?_, by rw [List.zip_cons_cons, List.map_cons, h2], by rw [List.zip_cons_cons, List.map_cons, h3]⟩
    rw [List.zip_cons_cons] at hz
    rcases List.mem_cons.mp hz with rfl | hz
    · exact h
    · exact h1 z hz
theorem rpl_of {B : Hp} : ∀ {zs : List (V × PyData)}, (∀ z ∈ zs, Rp B z.1 z.2) → RpL B (zs.map (·.1)) (zs.map (·.2))
  | [], _ => .nil
  | z :: zs, h => .cons (h z (List.mem_cons_self ..)) (rpl_of fun y hy => h y (List.mem_cons_of_mem _ hy))
theorem rc_sortD {K : PySem.W.Frag} {α : Type} {enc : α → PyData} {l : List α} (hal : AllAlike (l.map enc)) (hk : Sortable (l.map enc)) (hz : l.length ≤ 1000) (hd : ∀ x ∈ l, (enc x).depth ≤ 60) : RC (rSortDat K) [isD (.list (l.map enc))] (isD (.list ((srt enc l).map enc))) := fun Z B H hp vs Q S ha k => by
  obtain ⟨v, rfl, hv⟩ := all2_one ha
  cases hv with
  | lst h r =>
    rename_i a xs
    obtain ⟨z1, z2, z3⟩ := rpl_zip r
    have hlen : (xs.zip (l.map enc)).length ≤ sizeLine := by
      have := congrArg List.length z3
      rw [List.length_map, List.length_map] at this
      rw [this]; exact Nat.le_trans hz (by decide)
    refine ⟨a, xs.zip (l.map enc), rfl, by rw [z2]; exact SqL.of (S.bh _ _ h), fun z hz => Rp.dp S.bh (z1 z hz), by rw [z3]; exact hal, by rw [z3]; exact hk, hlen, fun z hz => ?_, fun q hq => ?_⟩
    · have : z.2 ∈ (xs.zip (l.map enc)).map (·.2) := List.mem_map_of_mem (f := (·.2)) hz
      rw [z3] at this
      obtain ⟨y, hy, e⟩ := List.mem_map.mp this
      rw [← e]; exact hd y hy
    · obtain ⟨S2, m2⟩ := S.alloc hq (.lst (((xs.zip (l.map enc)).mergeSort (dataLe false fun z : V × PyData => z.2)).map (·.1)))
      refine k _ _ _ m2 S2 (.lst upd_same ?_)
      have e : (srt enc l).map enc = ((xs.zip (l.map enc)).mergeSort (dataLe false fun z : V × PyData => z.2)).map (·.2) := by
        have := srt_map (fun z : V × PyData => z.2) (xs.zip (l.map enc))
        rw [srt_map]
        rw [z3] at this
        exact this.symm
      rw [e]
      exact rpl_of fun z hz => (z1 z ((List.mergeSort_perm _ _).mem_iff.mp hz)).mono m2
theorem Sat.addTups {Z : Fx} {H : Hp} {hp : List Cell} : ∀ {bs : List Addr} {B : Hp}, Sat Z B H hp → (∀ b ∈ bs, ∃ xs, H b = some (.tup xs)) → ∃ B', Sat Z B' H hp ∧ Same B B' ∧ ∀ b ∈ bs, ∀ xs, H b = some (.tup xs) → B' b = some (.tup xs)
  | [], B, S, _ => ⟨B, S, Same.refl B, fun b h => by cases h⟩
  | b :: bs, B, S, h => by
    obtain ⟨xs, hx⟩ := h b (List.mem_cons_self ..)
    obtain ⟨B1, S1, m1, h1⟩ := S.addTup hx
    obtain ⟨B2, S2, m2, h2⟩ := Sat.addTups S1 fun c hc => h c (List.mem_cons_of_mem _ hc)
    refine ⟨B2, S2, m1.trans m2, fun c hc ys hy => ?_⟩
    rcases List.mem_cons.mp hc with rfl | hc
    · rw [hx] at hy; cases hy; exact m2 _ _ h1
    · exact h2 c hc ys hy
theorem isKeys_mem {H : Hp} {kvs : List (List Key × V)} {bs : List Addr} (h : IsKeys H kvs bs) : ∀ b ∈ bs, ∃ xs, H b = some (.tup xs) := by
  induction h with
  | nil => intro b h; cases h
  | cons h1 _ ih =>
    intro b hb
    rcases List.mem_cons.mp hb with rfl | hb
    · exact ⟨_, h1⟩
    · exact ih b hb
/-- sorted(d), its keys tuples -/
theorem rc_sortT {κ β : Type} [DecidableEq κ] {ke : κ → List Key} {ve : β → PyData} {d : List (κ × β)} (hal : AllAlike ((keys d).map fun x => eKey (ke x))) (hk : Sortable ((keys d).map fun x => eKey (ke x))) : RC rSortDT [isO (oT ke ve d)] (isD (.list ((srt (fun x => eKey (ke x)) (keys d)).map fun x => eKey (ke x)))) := fun Z B H hp vs Q S ha k => by
  obtain ⟨v, rfl, a, o, rfl, h1, kvs, rfl, pv⟩ := all2_one ha
  have ek : (kvs.map fun p => eKey p.1) = (keys d).map fun x => eKey (ke x) := by
    clear h1 ha hal hk k
    induction pv with
    | nil => rfl
    | cons h1 _ ih => rw [List.map_cons, ih, h1.1]; rfl
  refine ⟨a, kvs, rfl, .inl (S.bh _ _ h1), by rw [ek]; exact hal, by rw [ek]; exact hk, fun q bs hq hb => ?_⟩
  obtain ⟨B1, S1, m1, g1⟩ := S.addTups (isKeys_mem hb)
  obtain ⟨S2, m2⟩ := S1.alloc hq (.lst (((keyZs kvs bs).mergeSort (dataLe false fun z : V × PyData => z.2)).map (·.1)))
  refine k _ _ _ (m1.trans m2) S2 (.lst upd_same ?_)
  have e : (srt (fun x => eKey (ke x)) (keys d)).map (fun x => eKey (ke x)) = ((keyZs kvs bs).mergeSort (dataLe false fun z : V × PyData => z.2)).map (·.2) := by
    have := srt_map (fun z : V × PyData => z.2) (keyZs kvs bs)
    rw [(keyZs_fst hb).2, ek] at this
    rw [srt_map]
    exact this.symm
  rw [e]
  refine rpl_of fun z hz => ?_
  obtain ⟨b, kk, rfl, hb2, _⟩ := keyZs_dp (K := []) hb z ((List.mergeSort_perm _ _).mem_iff.mp hz)
  have hbm : b ∈ bs := by
    have : (V.ref b, eKey kk) ∈ keyZs kvs bs := (List.mergeSort_perm _ _).mem_iff.mp hz
    have h3 := (List.of_mem_zip this).1
    obtain ⟨c, hc, e⟩ := List.mem_map.mp h3
    cases e; exact hc
  exact .tup (m2 _ _ (g1 b hbm _ hb2)) (keys_rpl kk)
end PK
end
section
set_option Elab.async false
set_option linter.all false
set_option maxRecDepth 100000
set_option maxHeartbeats 2000000
/-! The layer: sorted of int keys, of sets; min; update; locks and walks over dicts; a display; a loop as a statement. -/
namespace PK
open PySem PySem.Spec PyProof.Rows L2
open PM (aget aput keys)
open PySem.W (AllAlike Sortable dataLe)

/-- ints, rising -/
def sI (ns : List Int) : List Int := ns.mergeSort fun a b => decide (a ≤ b)
theorem sI_perm (ns : List Int) : (sI ns).Perm ns := List.mergeSort_perm _ _
theorem sI_up (ns : List Int) : (sI ns).Pairwise (· ≤ ·) := by
  have := List.pairwise_mergeSort (le := fun a b : Int => decide (a ≤ b)) (fun a b c h1 h2 => by simp at *; omega) (fun a b => by simp; omega) ns
  exact this.imp fun h => by simpa using h
theorem sI_unique {ys ns : List Int} (p : ys.Perm ns) (h : ys.Pairwise (· ≤ ·)) : ys = sI ns := by
  have p2 : ys.Perm (sI ns) := p.trans (sI_perm ns).symm
  exact List.Perm.eq_of_pairwise (fun a b _ _ h1 h2 => Int.le_antisymm h1 h2) h (sI_up ns) p2
theorem rpl_mapI {B : Hp} : ∀ ns : List Int, RpL B (ns.map V.int) (ns.map .int)
  | [] => .nil
  | n :: ns => .cons (.int n) (rpl_mapI ns)
theorem rpl_mapS {B : Hp} : ∀ ns : List Str, RpL B (ns.map V.str) (ns.map .str)
  | [] => .nil
  | n :: ns => .cons (.str n) (rpl_mapS ns)
/-- sorted(d), its keys ints -/
theorem rc_sortK {κ β : Type} [DecidableEq κ] {kk : κ → Key} {ki : κ → Int} {ve : β → PyData} {d : List (κ × β)} (hki : ∀ x, kk x = Sum.inl (ki x)) (hl : d.length < 64) :
    RC (fun xs H Q => ∃ (a : Addr) (kvs : List (Key × V)) (ks : List Int), xs = [.ref a] ∧ Rd H a (.dK kvs) ∧ kvs.map (·.1) = ks.map Sum.inl ∧ ks.length < 64 ∧ ∀ (ys : List Int) (p : Addr), ys.Perm ks → ys.Pairwise (· ≤ ·) → H p = none → Q (.ref p) (upd H p (.lst (ys.map V.int))))
      [isO (oK kk ve d)] (isD (.list ((sI ((keys d).map ki)).map .int))) := fun Z B H hp vs Q S ha k => by
  obtain ⟨v, rfl, a, o, rfl, h1, kvs, rfl, pv⟩ := all2_one ha
  have ek : kvs.map (·.1) = ((keys d).map ki).map Sum.inl := by
    clear h1 ha k hl
    induction pv with
    | nil => rfl
    | cons h1 _ ih => rw [List.map_cons, ih, h1.1, hki]; rfl
  refine ⟨a, kvs, (keys d).map ki, rfl, .inl (S.bh _ _ h1), ek, by rw [List.length_map]; unfold keys; rw [List.length_map]; exact hl, fun ys p h2 h3 hp => ?_⟩
  obtain ⟨S2, m2⟩ := S.alloc hp (.lst (ys.map V.int))
  refine k _ _ _ m2 S2 (.lst upd_same ?_)
  rw [sI_unique h2 h3]
  exact rpl_mapI _
/-- set(xs) of texts -/
def oSet (l : List Str) : MO := ⟨fun o B => ∃ w a n, o = SetXO w a (fun j => decide (j ∈ l)) n ∧ n ≤ l.length, fun _ h => h⟩
def isSet (w : World) (l : List Str) : MA := ⟨fun v B => ∃ a n, v = .ref a ∧ B a = some (SetXO w a (fun j => decide (j ∈ l)) n) ∧ n ≤ l.length, fun e ⟨a, n, h1, h2, h3⟩ => ⟨a, n, h1, e _ _ h2, h3⟩⟩
theorem rc_setX {K : PySem.W.Frag} {w : World} {l : List Str} (hz : l.length ≤ 1000) : RC (rSetX K w) [isD (.list (l.map .str))] (isSet w l) := fun Z B H hp vs Q S ha k => by
  obtain ⟨v, rfl, hv⟩ := all2_one ha
  cases hv with
  | lst h r =>
    rw [rpl_strs r] at h
    refine ⟨_, l, rfl, SqL.of (S.bh _ _ h), hz, fun p n hp hn => ?_⟩
    obtain ⟨S2, m2⟩ := S.alloc hp (SetXO w p (fun j => decide (j ∈ l)) n)
    exact k _ _ _ m2 S2 ⟨p, n, rfl, upd_same, hn⟩
def ddp : List Str → List Str
  | [] => []
  | a :: l => if a ∈ l then ddp l else a :: ddp l
theorem mem_ddp {x : Str} : ∀ {l : List Str}, x ∈ ddp l ↔ x ∈ l
  | [] => Iff.rfl
  | a :: l => by
    unfold ddp
    split
    · rename_i h
      rw [mem_ddp, List.mem_cons]
      exact ⟨Or.inr, fun q => q.elim (fun e => e ▸ h) id⟩
    · rw [List.mem_cons, List.mem_cons, mem_ddp]
theorem nodup_ddp : ∀ l : List Str, (ddp l).Nodup
  | [] => List.nodup_nil
  | a :: l => by
    unfold ddp
    split
    · exact nodup_ddp l
    · rename_i h
      exact List.nodup_cons.mpr ⟨fun z => h (mem_ddp.mp z), nodup_ddp l⟩
/-- texts, each once, rising -/
def sSet (l : List Str) : List Str := srt dStr (ddp l)
def ltS' (a b : Str) : Bool := decide (a.cps.toList ≤ b.cps.toList)
theorem dle_str : dataLe false dStr = ltS' := PySem.W.dataLe_str (β := Str) id
theorem str_ext {a b : Str} (h : a.cps.toList = b.cps.toList) : a = b := by
  cases a; cases b
  simp at h
  subst h; rfl
theorem ltS_trans (a b c : Str) (h1 : ltS' a b = true) (h2 : ltS' b c = true) : ltS' a c = true := by
  unfold ltS' at *
  exact decide_eq_true (List.le_trans (of_decide_eq_true h1) (of_decide_eq_true h2))
theorem ltS_total (a b : Str) : (ltS' a b || ltS' b a) = true := by
  unfold ltS'
  rcases List.le_total a.cps.toList b.cps.toList with h | h
  · rw [decide_eq_true h]; rfl
  · rw [decide_eq_true h, Bool.or_true]
theorem sorted_unique {xs ys : List Str} (p : xs.Perm ys) : xs.mergeSort ltS' = ys.mergeSort ltS' := by
  have p1 : (xs.mergeSort ltS').Perm (ys.mergeSort ltS') := (List.mergeSort_perm _ _).trans (p.trans (List.mergeSort_perm _ _).symm)
  exact List.Perm.eq_of_pairwise (le := fun a b => ltS' a b = true) (fun a b _ _ h1 h2 => str_ext (List.le_antisymm (of_decide_eq_true h1) (of_decide_eq_true h2))) (List.pairwise_mergeSort ltS_trans ltS_total xs) (List.pairwise_mergeSort ltS_trans ltS_total ys) p1
theorem rc_sortX {w : World} {l : List Str} (hz : l.length ≤ 1000) : RC (rSortX w) [isSet w l] (isD (.list ((sSet l).map .str))) := fun Z B H hp vs Q S ha k => by
  obtain ⟨v, rfl, a, n, rfl, h1, h2⟩ := all2_one ha
  refine ⟨a, _, n, rfl, S.bh _ _ h1, Nat.le_trans h2 hz, fun xs p hnd hm hl hp => ?_⟩
  obtain ⟨S2, m2⟩ := S.alloc hp (.lst ((xs.mergeSort (dataLe false dStr)).map V.str))
  refine k _ _ _ m2 S2 (.lst upd_same ?_)
  have e : xs.mergeSort (dataLe false dStr) = sSet l := by
    unfold sSet srt
    rw [dle_str]
    refine sorted_unique ((List.perm_ext_iff_of_nodup hnd (nodup_ddp l)).mpr fun x => ?_)
    rw [hm x, mem_ddp, decide_eq_true_eq]
  rw [e]
  exact rpl_mapS _
/-- min(xs) -/
def lmin : List Int → Int
  | [] => 0
  | n :: ns => ns.foldl min n
theorem lmin_le' : ∀ (ns : List Int) (n : Int), ns.foldl min n ≤ n ∧ (∀ y ∈ ns, ns.foldl min n ≤ y) ∧ (ns.foldl min n = n ∨ ns.foldl min n ∈ ns)
  | [], n => ⟨Int.le_refl _, (fun y h => by cases h), Or.inl rfl⟩
  | m :: ns, n => by
    obtain ⟨h1, h2, h3⟩ := lmin_le' ns (min n m)
    show ns.foldl min (min n m) ≤ n ∧ _
    refine ⟨by omega, fun y hy => ?_, ?_⟩
    · rcases List.mem_cons.mp hy with rfl | hy
      · show ns.foldl min (min n y) ≤ y; omega
      · exact h2 y hy
    · show ns.foldl min (min n m) = n ∨ ns.foldl min (min n m) ∈ m :: ns
      rcases h3 with h3 | h3
      · by_cases q : n ≤ m
        · left; rw [h3]; omega
        · right; rw [h3]
          have : min n m = m := by omega
          rw [this]; exact List.mem_cons_self ..
      · exact Or.inr (List.mem_cons_of_mem _ h3)
theorem lmin_le {ns : List Int} {y : Int} (h : y ∈ ns) : lmin ns ≤ y := by
  cases ns with
  | nil => cases h
  | cons n ns =>
    obtain ⟨h1, h2, _⟩ := lmin_le' ns n
    rcases List.mem_cons.mp h with rfl | h
    · exact h1
    · exact h2 y h
theorem lmin_mem {ns : List Int} (h : ns ≠ []) : lmin ns ∈ ns := by
  cases ns with
  | nil => exact absurd rfl h
  | cons n ns =>
    obtain ⟨_, _, h3⟩ := lmin_le' ns n
    show ns.foldl min n ∈ n :: ns
    rcases h3 with h3 | h3
    · rw [h3]; exact List.mem_cons_self ..
    · exact List.mem_cons_of_mem _ h3
theorem rc_min {K : PySem.W.Frag} {ns : List Int} (hne : ns ≠ []) : RC (rMin K) [isD (.list (ns.map .int))] (isI (lmin ns)) := fun Z B H hp vs Q S ha k => by
  obtain ⟨v, rfl, hv⟩ := all2_one ha
  cases hv with
  | lst h r =>
    rw [rpl_ints r] at h
    refine ⟨_, ns, rfl, SqL.of (S.bh _ _ h), List.length_pos_iff.mpr hne, fun m hm hle => ?_⟩
    have e : m = lmin ns := Int.le_antisymm (hle _ (lmin_mem hne)) (lmin_le hm)
    rw [e]
    exact k _ B H (Same.refl B) S (.int _)
/-- tuple * 0, 1 -/
theorem re_rep01 {K : PySem.W.Frag} {ds : List PyData} {i : Int} (hne : ds ≠ []) (hi : i = 0 ∨ i = 1) : RE (rRep01 K) (isD (.tuple ds)) (isI i) (isD (.tuple (if i = 1 then ds else []))) := fun Z B H hp v w Q S hx hy k => by
  cases hy
  cases hx with
  | tup h r =>
    rename_i a xs
    have hxs : xs ≠ [] := fun e => hne (by rw [e] at r; cases r; rfl)
    refine ⟨a, i, xs, rfl, rfl, SqT.of (S.bh _ _ h), hxs, ?_⟩
    rcases hi with rfl | rfl
    · refine .inr ⟨rfl, fun p hp => ?_⟩
      obtain ⟨S2, m2⟩ := S.alloc hp (.tup [])
      exact k _ _ _ m2 S2 (.tup upd_same .nil)
    · exact .inl ⟨rfl, k _ B H (Same.refl B) S (.tup h r)⟩
theorem re_notInT {K : PySem.W.Frag} {d : PyData} {ds : List PyData} (hd : SeqAt.shaped d = true) (hs : SeqAt.shaped (.tuple ds) = true) : RE (rNotInT K) (isD d) (isD (.tuple ds)) (isB (!ds.any fun z => PyData.eqv z d)) := fun Z B H hp v w Q S hx hy k =>
  ⟨d, ds, Rp.dp S.bh hx, Rp.dp S.bh hy, hd, hs, k _ B H (Same.refl B) S (.bl _)⟩
/-- what an update makes -/
def amerge {κ β : Type} [DecidableEq κ] (d more : List (κ × β)) : List (κ × β) := more.foldl (fun acc kv => aput acc kv.1 kv.2) d
theorem PV.merge {κ β : Type} [DecidableEq κ] {B : Hp} {kk : κ → Key} {ve : β → PyData} (inj : ∀ a b, kk a = kk b → a = b) {more' : List (Key × V)} {more : List (κ × β)} (h2 : PV B kk ve more' more) : ∀ {kvs : List (Key × V)} {d : List (κ × β)}, PV B kk ve kvs d → PV B kk ve (mergeK kvs more') (amerge d more) := by
  induction h2 with
  | nil => intro kvs d h; exact h
  | @cons kv q more' more h1 _ ih =>
    intro kvs d h
    have e := PV.put inj h q.1 h1.2
    show PV B kk ve (mergeK (putK kvs kv.1 kv.2) more') (amerge (aput d q.1 q.2) more)
    rw [h1.1]
    exact ih e
section
variable {κ β : Type} [DecidableEq κ] {X : Cx} {own0 : List Addr} {sl : SL} {hp hp1 : List Cell} {A : MA} {Nx : NxP} {Rt : RtP} {rest sts body : List Stmt} {e o i value tg iter : Expr} {pos pos' p apos cpos : Pos} {x : Str} {a : Addr} {ke : κ → List Key} {kk : κ → Key} {ve : β → PyData} {d more : List (κ × β)}
theorem dss_upd (inj : ∀ a b, kk a = kk b → a = b) (j : Nat) (ho : DE X o sl hp (isV (.ref a)) hp) (he : DE X e sl hp (isO (oK kk ve more)) hp) (hj : hp[j]? = some ⟨a, oK kk ve d⟩) (hz : d.length + more.length ≤ 1000000) (hr : DSs X own0 rest sl (hp.set j ⟨a, oK kk ve (amerge d more)⟩) Nx Rt)
    (m : M1 X o "update" apos e cpos := by exact ⟨rfl, rfl, rfl, rfl⟩) (hs : swapsWith (.Call (.Attribute o "update" apos) [e] [] cpos) none pos.line X.env = pure false := by rfl) : DSs X own0 (.Expr (.Call (.Attribute o "update" apos) [e] [] cpos) pos :: rest) sl hp Nx Rt :=
  pss_imp (pss_cons (ps_expr (pe_dupd ho he m) hs) hr) fun D σ H ⟨Z, B, z, S, T, k, r⟩ => ⟨Z, B, S, T, fun v B1 H1 m1 S1 q1 => by
    have q1' : v = .ref a := q1
    subst q1'
    obtain ⟨u, hu, kvs, rfl, pv⟩ := S1.at hj
    refine ⟨a, rfl, .inl ⟨kvs, .inl hu⟩, Z, B1, S1, T.mono m1, fun w B2 H2 m2 S2 ⟨b, o2, e2, h2, kvs2, e3, pv2⟩ => ?_⟩
    subst e2 e3
    obtain ⟨u2, hu2, kvs', rfl, pv'⟩ := S2.at hj
    have hab : a ≠ b := fun z => by
      have := (S2.ow _ (List.mem_of_getElem? hj)).1
      rw [show (⟨a, oK kk ve d⟩ : Cell).a = a from rfl, z, h2] at this; cases this
    refine ⟨b, kvs', kvs2, rfl, hab, hu2, .inl (S2.bh _ _ h2), by rw [Paired.length pv', Paired.length pv2]; exact Nat.le_trans hz (by decide), Z, B2, z, S2.write hj (o := .dK (mergeK kvs' kvs2)) (mo := oK kk ve (amerge d more)) ⟨_, rfl, PV.merge inj pv2 pv'⟩, T.mono (m1.trans m2), fun σ' B' H' s h m => k σ' B' H' s h (m1.trans (m2.trans m)), fun v B' H' h m => r v B' H' h (m1.trans (m2.trans m))⟩⟩
/-- x = {t: v} -/
theorem dss_disp1 {i : Nat} {k v : Expr} {p : Pos} {kx : κ} {y : β} (hu : X.A.units + 64 < cLine) (ke : κ → List Key) (ve : β → PyData) (hk : ∀ a, DE X k sl (hp ++ [⟨a, oRaw (.dT [])⟩]) (isD (eKey (ke kx))) (hp ++ [⟨a, oRaw (.dT [])⟩])) (hv : ∀ a, DE X v sl (hp ++ [⟨a, oRaw (.dT [])⟩]) (isD (ve y)) (hp ++ [⟨a, oRaw (.dT [])⟩]))
    (hr : ∀ a, a ∉ own0 → DSs X own0 rest (sl.set i (some (isV (.ref a)))) (hp ++ [⟨a, oT ke ve [(kx, y)]⟩]) Nx Rt) (hN : X.N.Nodup) (hi : X.N[i]? = some x := by rfl) (hx : Loc X.env.scope x := by first | exact Or.inl rfl | exact Or.inr rfl)
    (hs : swapsWith (.Dict [some k] [v] p) (some (.Name x pos')) pos.line X.env = pure false := by rfl) (hf : X.fn x = true ∨ X.env.scope.names.lookup x = some .local := by first | exact .inl rfl | exact .inr rfl | assumption) :
    DSs X own0 (.Assign [.Name x pos'] (.Dict [some k] [v] p) pos :: rest) sl hp Nx Rt := by
  have hk' : PE X k (fun σ H Q => ∃ a, tDE sl (hp ++ [⟨a, oRaw (.dT [])⟩]) (isD (eKey (ke kx))) (hp ++ [⟨a, oRaw (.dT [])⟩]) σ H Q) := pe_ex hk
  have hv' : PE X v (fun σ H Q => ∃ a, tDE sl (hp ++ [⟨a, oRaw (.dT [])⟩]) (isD (ve y)) (hp ++ [⟨a, oRaw (.dT [])⟩]) σ H Q) := pe_ex hv
  refine pss_imp (pss_cons (ps_set hN hi hx (pe_disp1 (by omega) hk' hv') hs hf) (pss_ex fun a => pss_hyp (hr a))) fun D σ H ⟨Z, B, z, S, T, k, r⟩ => fun p hp0 => ?_
  obtain ⟨S2, hn⟩ := S.allocOwn hp0 (o := .dT []) (mo := oRaw (.dT [])) rfl
  refine ⟨p, Z, B, S2, T, fun w B1 H1 m1 S1 q1 => ⟨p, Z, B1, S1, T.mono m1, fun u B2 H2 m2 S3 q2 => ?_⟩⟩
  have hcell : (hp ++ [(⟨p, oRaw (.dT [])⟩ : Cell)])[hp.length]? = some ⟨p, oRaw (.dT [])⟩ := by simp
  obtain ⟨o, ho, hoo⟩ := S3.at hcell
  have hoo' : o = .dT [] := hoo
  subst hoo'
  obtain ⟨b, rfl, h2⟩ := rp_eKey q1
  refine ⟨ho, ke kx, b, rfl, S3.bh _ _ (m2 _ _ h2), p, by rw [← z]; exact hn, Z, B2, z, ?_, (T.mono (m1.trans m2)).set (A := isV (.ref p)) rfl i, fun σ' B' H' s h m => k σ' B' H' s h (m1.trans (m2.trans m)), fun v B' H' h m => r v B' H' h (m1.trans (m2.trans m))⟩
  have S7 := Sat.write S3 hcell (o := .dT [(ke kx, u)]) (mo := oT ke ve [(kx, y)]) ⟨_, rfl, .cons ⟨rfl, q2⟩ .nil⟩
  have e : (hp ++ [(⟨p, oRaw (.dT [])⟩ : Cell)]).set hp.length ⟨p, oT ke ve [(kx, y)]⟩ = hp ++ [⟨p, oT ke ve [(kx, y)]⟩] := by
    rw [List.set_append_right _ _ (Nat.le_refl _)]; simp
  rw [e] at S7
  exact S7

/-! ### locks -/
theorem mut_noT {u : HO} (h : Mut (some u)) : noT u = true := by cases u <;> first | rfl | exact h.elim
theorem Sat.lock {Z : Fx} {B H : Hp} {j : Nat} {mo : MO} (S : Sat Z B H hp) (hj : hp[j]? = some ⟨a, mo⟩) {u : HO} (od : Obj) (hu : mo.p u B) : Sat Z B (upd H a (.frz od u)) (hp.set j ⟨a, oFz od u mo⟩) := Sat.write S hj (o := .frz od u) (mo := oFz od u mo) ⟨rfl, hu⟩
theorem Sat.unlock {Z : Fx} {B H : Hp} {j : Nat} {mo : MO} {u : HO} {od : Obj} (S : Sat Z B H (hp.set j ⟨a, oFz od u mo⟩)) (hj : hp[j]? = some ⟨a, mo⟩) (hm : Mut (some u)) : H a = some (.frz od u) ∧ Sat Z B (upd H a u) hp := by
  have hj2 : (hp.set j ⟨a, oFz od u mo⟩)[j]? = some ⟨a, oFz od u mo⟩ := List.getElem?_set_self (List.getElem?_eq_some_iff.mp hj).1
  obtain ⟨o, h1, h2, h3⟩ := S.at hj2
  refine ⟨by rw [← h2]; exact h1, ?_⟩
  have S2 := S.write hj2 (o := u) (mo := mo) h3 (mut_noT hm)
  rw [List.set_set, set_self hj] at S2
  exact S2
theorem de_lock {mo : MO} (j : Nat) (hj : hp[j]? = some ⟨a, mo⟩) (hmut : ∀ u B, mo.p u B → Mut (some u)) (h : ∀ od u, DE X e sl (hp.set j ⟨a, oFz od u mo⟩) A (hp.set j ⟨a, oFz od u mo⟩)) : DE X e sl hp A hp := by
  have h' : PE X e (fun σ H Q => ∃ (q : Obj × HO), tDE sl (hp.set j ⟨a, oFz q.1 q.2 mo⟩) A (hp.set j ⟨a, oFz q.1 q.2 mo⟩) σ H Q) := pe_ex fun q => h q.1 q.2
  refine pe_imp (pe_lock h') fun σ H Q ⟨Z, B, S, T, k⟩ => ?_
  obtain ⟨u, hu, hmu⟩ := S.at hj
  refine ⟨a, u, hu, hmut u B hmu, fun od => ⟨(od, u), Z, B, S.lock hj od hmu, T, fun v B' H' m S' q => ?_⟩⟩
  obtain ⟨e1, S2⟩ := S'.unlock hj (hmut u B hmu)
  exact ⟨e1, k v B' _ m S2 q⟩
/-- a statement within a lock -/
theorem dss_lock {mo : MO} {st : Stmt} {M : NxP} (j : Nat) (hj : hp[j]? = some ⟨a, mo⟩) (hmut : ∀ u B, mo.p u B → Mut (some u)) (h : ∀ od u, PS X st (tDS own0 sl (hp.set j ⟨a, oFz od u mo⟩) (fun s h' => ∃ h0, h' = h0.set j ⟨a, oFz od u mo⟩ ∧ h0[j]? = some ⟨a, mo⟩ ∧ M s h0) (fun _ _ _ => False)))
    (hr : ∀ s h, M s h → DSs X own0 rest s h Nx Rt) : DSs X own0 (st :: rest) sl hp Nx Rt := by
  have h' : PS X st (fun D σ H => ∃ (q : Obj × HO), tDS own0 sl (hp.set j ⟨a, oFz q.1 q.2 mo⟩) (fun s h' => ∃ h0, h' = h0.set j ⟨a, oFz q.1 q.2 mo⟩ ∧ h0[j]? = some ⟨a, mo⟩ ∧ M s h0) (fun _ _ _ => False) D σ H) := ⟨fun pins s σ H D I ⟨q, w⟩ => (h q.1 q.2).run pins s σ H D I w⟩
  refine pss_imp (pss_cons (ps_lock h') (pss_ex fun s => pss_ex fun h => pss_hyp (hr s h))) fun D σ H ⟨Z, B, z, S, T, k, r⟩ => ?_
  obtain ⟨u, hu, hmu⟩ := S.at hj
  refine ⟨a, u, hu, hmut u B hmu, fun od => ⟨(od, u), Z, B, z, S.lock hj od hmu, T, ?_, fun v B' H' h m S' q => q.elim⟩⟩
  rintro σ' B' H' s h m ⟨h0, rfl, hj0, hM⟩ S' T'
  obtain ⟨e1, S2⟩ := S'.unlock hj0 (hmut u B hmu)
  exact ⟨e1, s, h0, hM, Z, B', z, S2, T', fun σ2 B2 H2 s2 h2 m2 => k σ2 B2 H2 s2 h2 (m.trans m2), fun v B2 H2 h2 m2 => r v B2 H2 h2 (m.trans m2)⟩
theorem hdc_fz {mo : MO} {od : Obj} {u : HO} (j : Nat) (hj : hp[j]? = some ⟨a, oFz od u mo⟩) : HdC hp [(a, .frz od u)] := fun Z B H fr S q hq => by
  rw [List.mem_singleton] at hq
  subst hq
  have hj2 : (hp ++ fr)[j]? = some ⟨a, oFz od u mo⟩ := by rw [List.getElem?_append_left (List.getElem?_eq_some_iff.mp hj).1]; exact hj
  obtain ⟨o, h1, h2, _⟩ := S.at hj2
  rw [← h2]; exact h1
/-- the keys of a dict, within a lock -/
theorem di_keysT {od : Obj} {u : HO} (j : Nat) (hj : hp[j]? = some ⟨a, oFz od u (oT ke ve d)⟩) (he : DE X e sl hp (isV (.ref a)) hp) : DIF X tg e sl hp (keys d) (fun x => isD (eKey (ke x))) hp [(a, .frz od u)] := by
  refine ⟨_, pi_keys he, fun σ H R ⟨Z, B, S, T, k⟩ => ⟨Z, B, S, T, fun v B1 H1 m1 S1 q1 => ?_⟩⟩
  have q1' : v = .ref a := q1
  subst q1'
  obtain ⟨o, h1, h2, kvs, h3, pv⟩ := S1.at hj
  subst h2 h3
  have hl : kvs.length = (keys d).length := by rw [Paired.length pv]; unfold keys; rw [List.length_map]
  refine ⟨a, od, rfl, .inr ⟨kvs, h1, k B1 H1 _ m1 S1 ⟨fun i H hi m hF => ?_, fun H m hF => ?_, fun i x H v H' hx m y => ?_⟩⟩⟩
  · exact ⟨hF _ (List.mem_singleton.mpr rfl), by rw [hl]; exact hi⟩
  · exact ⟨hF _ (List.mem_singleton.mpr rfl), Nat.le_of_eq hl⟩
  · obtain ⟨rfl, kk, w, q, h4, rfl, h5⟩ := y
    have ek : kk = ke x := by
      have : ∀ {kvs : List (List Key × V)} {d : List (κ × β)} {i : Nat}, PV B1 ke ve kvs d → (keys d)[i]? = some x → kvs[i]? = some (kk, w) → kk = ke x := by
        intro kvs d i h
        induction h generalizing i with
        | nil => intro h; simp [keys] at h
        | cons h1 _ ih =>
          intro h2 h3
          cases i with
          | zero =>
            simp [keys] at h2 h3
            rw [← h2, ← h1.1, h3]
          | succ i => exact ih (by simpa [keys] using h2) (by simpa using h3)
      exact this pv hx h4
    subst ek
    exact .inr <| .inr ⟨q, _, (ke x).map dKey, rfl, h5, rfl, keys_rpl _, rfl⟩
/-- for, as one statement -/
theorem ds_for {α : Type} {xs : List α} {I : α → MA} {F : List (Addr × HO)} (hi : DIF X tg iter sl hp xs I hp1 F) (js : List Nat) (As : α → List MA) (hg : ∀ x, x ∈ xs → PG X tg (tDG (I x) js (As x))) (E : Nat → NxP) (h0 : E 0 sl hp1)
    (hb : ∀ i x s h, xs[i]? = some x → E i s h → DSs X own0 body (setSL s js (As x)) h (E (i + 1)) Rt) (hr : ∀ s h, E xs.length s h → Nx s h)
    (hp' : PassesOwn (model X.prog X.w) X.A X.env X.xe := by exact PassesOwn.never) (hc : X.calm = true := by rfl) (hs : ∀ x, foldedSetIterable iter X.env x = pure x := by intro _; rfl) (hF : ∀ i s h, E i s h → HdC h F := by exact fun _ _ _ _ => HdC.nil) : PS X (.For tg iter body [] pos) (tDS own0 sl hp Nx Rt) := by
  obtain ⟨wi, w1, w2⟩ := hi.ex
  refine ps_imp (ps_for (g := fun v σ H Q => ∃ x, x ∈ xs ∧ tDG (I x) js (As x) v σ H Q) (tb := fun D σ H => ∃ i x s h, (xs[i]? = some x ∧ E i s h) ∧ tDS own0 (setSL s js (As x)) h (E (i + 1)) Rt D σ H) hp' hc w1 ?_ ?_ hs) ?_
  · exact pg_ex fun x => ⟨fun pins s' σ H' v u Q I' r ⟨hx, w⟩ => (hg x hx).run pins s' σ H' v u Q I' r w⟩
  · exact pss_ex fun i => pss_ex fun x => pss_ex fun s => pss_ex fun h => pss_hyp fun q => hb i x s h q.1 q.2
  · intro D σ H ⟨Z, B, z, S, T, k, r⟩
    refine w2 σ H _ ⟨Z, B, S, T, fun B1 H1 J m1 S1 W => ?_⟩
    refine ⟨fun i m σ H => m = xs.length - i ∧ i ≤ xs.length ∧ ∃ Bc s h, Same B1 Bc ∧ E i s h ∧ Sat Z Bc H h ∧ SatS Bc σ s, ⟨xs.length, by simp, Nat.zero_le _, B1, sl, hp1, Same.refl B1, h0, S1, T.mono m1⟩, ?_⟩
    rintro i m σc Hc ⟨rfl, hi2, Bc, s, h, mc, hE, Sc, Tc⟩
    by_cases hlt : i < xs.length
    · refine .inr ⟨W.goes i Hc hlt (mc.trans Sc.bh) (hF i s h hE _ _ _ [] (by rw [List.append_nil]; exact Sc)), fun σ' H' => ∃ Bc s h, Same B1 Bc ∧ E (i + 1) s h ∧ Sat Z Bc H' h ∧ SatS Bc σ' s, fun σ' H' q => ⟨xs.length - (i + 1), by omega, rfl, hlt, q⟩, fun v H' y => ?_⟩
      have hx : xs[i]? = some xs[i] := List.getElem?_eq_getElem hlt
      obtain ⟨Bd, Sd, md, qd⟩ := W.step Sc mc hx y
      refine ⟨xs[i], List.mem_of_getElem? hx, Bd, Sd.bh, qd, fun us hu => ⟨i, xs[i], s, h, ⟨hx, hE⟩, Z, Bd, z, Sd, (Tc.mono md).setAll hu, ?_, ?_⟩⟩
      · exact fun σ' B' H' s' h' m' hE' S' T' => ⟨B', s', h', mc.trans (md.trans m'), hE', S', T'⟩
      · exact fun v B' H' h' m' => r v B' H' h' (m1.trans (mc.trans (md.trans m')))
    · have e : i = xs.length := by omega
      subst e
      exact .inl ⟨W.stops Hc (mc.trans Sc.bh) (hF _ s h hE _ _ _ [] (by rw [List.append_nil]; exact Sc)), k σc Bc Hc s h (m1.trans mc) (hr s h hE) Sc Tc⟩
end
end PK
end
section
set_option Elab.async false
set_option linter.all false
set_option maxRecDepth 100000
set_option maxHeartbeats 2000000
namespace PK
open PySem PySem.Spec PyProof.Rows L2

/-- what the head tells of the fragment -/
structure Wd (K : PySem.W.Frag) (mg : Str → Option Value) : Prop where
  c : He.SaysD fa fn K
  g : ∃ h, K.In h ∧ h.Ns mainGlobals mg
section
variable {K : PySem.W.Frag} {mg : Str → Option Value}
theorem Wd.free (W : Wd K mg) (i : Nat) {x : Str} (h : fa[i]? = some (.free x) := by rfl) : mg x = none := by
  obtain ⟨h', X, G⟩ := W.g
  exact He.free_ok X G (W.c.fact i h)
theorem Wd.glo (W : Wd K mg) (i : Nat) {x : Str} (h : fa[i]? = some (.glo x) := by rfl) : mg x = some (.ref (He.ga K x)) := by
  obtain ⟨h', X, G⟩ := W.g
  exact He.glo_ok X G (W.c.fact i h)
abbrev FnD (K : PySem.W.Frag) (d : He.DefD) (f : Addr) (fd : FuncData) : Prop := FunD K d.name d.qual d.params d.body d.scope (d.dvs K) (d.kws K) f fd
theorem Wd.def_ (W : Wd K mg) (i : Nat) {d : He.DefD} (h : fn[i]? = some d := by rfl) : ∃ fd, FnD K d (He.fAd K d.at_) fd := W.c.def_ i h
end
theorem bt_sum : bootBuiltins "sum" = some (.builtin "sum") := by decide +kernel
theorem bt_all : bootBuiltins "all" = some (.builtin "all") := by decide +kernel
theorem bt_sorted : bootBuiltins "sorted" = some (.builtin "sorted") := by decide +kernel
theorem bt_zip : bootBuiltins "zip" = some (.type "zip") := by decide +kernel
theorem bt_enumerate : bootBuiltins "enumerate" = some (.type "enumerate") := by decide +kernel
theorem bt_tuple : bootBuiltins "tuple" = some (.type "tuple") := by decide +kernel
theorem bt_range : bootBuiltins "range" = some (.type "range") := by decide +kernel
theorem bt_min : bootBuiltins "min" = some (.builtin "min") := by decide +kernel
theorem bt_max : bootBuiltins "max" = some (.builtin "max") := by decide +kernel
theorem bt_set : bootBuiltins "set" = some (.type "set") := by decide +kernel
theorem bt_int : bootBuiltins "int" = some (.type "int") := by decide +kernel
theorem bt_list : bootBuiltins "list" = some (.type "list") := by decide +kernel
theorem bt_bool : bootBuiltins "bool" = some (.type "bool") := by decide +kernel
theorem bt_str : bootBuiltins "str" = some (.type "str") := by decide +kernel
theorem bt_len : bootBuiltins "len" = some (.builtin "len") := by decide +kernel
theorem bt_isinstance : bootBuiltins "isinstance" = some (.builtin "isinstance") := by decide +kernel
/-- what is built in, by name -/
structure Bi (mg : Str → Option Value) : Prop where
  tuple : mg "tuple" = none
  sorted : mg "sorted" = none
  sum : mg "sum" = none
  len : mg "len" = none
  range : mg "range" = none
  min : mg "min" = none
  max : mg "max" = none
  all : mg "all" = none
  isinstance : mg "isinstance" = none
  zip : mg "zip" = none
  enumerate : mg "enumerate" = none
  set : mg "set" = none
  int : mg "int" = none
  list : mg "list" = none
  bool : mg "bool" = none
  str : mg "str" = none
theorem Wd.bi {K : PySem.W.Frag} {mg : Str → Option Value} (W : Wd K mg) : Bi mg :=
  ⟨W.free 55, W.free 56, W.free 57, W.free 58, W.free 59, W.free 60, W.free 61, W.free 62, W.free 63, W.free 64, W.free 65, W.free 66, W.free 67, W.free 68, W.free 69, W.free 70⟩

section
variable {P : Program} {w : World} {K : PySem.W.Frag} {mg : Str → Option Value} {base : Heap} {f : Addr} {fd : FuncData}
theorem de_bi {X : Cx} {sl : SL} {hp : List Cell} {x : Str} {T : String} {pos : Pos} (hm : X.mg x = none) (hv : bootBuiltins x = some (.type T)) (hg : Gl X x := by rfl) (hn : x ≠ "__name__" := by decide) (hd : (x == ("__debug__" : Str)) = false := by decide) : DE X (.Name x pos) sl hp (isV (.ty T)) hp :=
  de_c (pe_bltn hg hm hv (show RelV (.ty T) (.type T) from rfl) hn hd) fun _ => rfl
theorem kit_ii : kitB "int" "int" = some true := by decide +kernel
theorem kit_ib : kitB "int" "bool" = some false := by decide +kernel
theorem kit_ss : kitB "str" "str" = some true := by decide +kernel
theorem kit_tt : kitB "tuple" "tuple" = some true := by decide +kernel
theorem de_and0 {X : Cx} {sl : SL} {hp : List Cell} {a b : Expr} {pos : Pos} {t u : Bool} {rest : List Expr} (ha : DE X a sl hp (isB t) hp) (hb : t = true → DE X (.BoolOp .And (b :: rest) pos) sl hp (isB u) hp) : DE X (.BoolOp .And (a :: b :: rest) pos) sl hp (isB (t && u)) hp := de_and ha hb fun _ => rfl
theorem de_or0 {X : Cx} {sl : SL} {hp : List Cell} {a b : Expr} {pos : Pos} {t u : Bool} {rest : List Expr} (ha : DE X a sl hp (isB t) hp) (hb : t = false → DE X (.BoolOp .Or (b :: rest) pos) sl hp (isB u) hp) : DE X (.BoolOp .Or (a :: b :: rest) pos) sl hp (isB (t || u)) hp := de_or ha hb fun _ => rfl
theorem dss_retP {X : Cx} {own0 : List Addr} {sl : SL} {hp : List Cell} {γ : Type} {R : γ → MA} {y : γ} {e : Expr} {pos : Pos} {rest : List Stmt} {Nx : NxP} {hpf : γ → List Cell} (he : DE X e sl [] (R y) []) : DSs X own0 (.Return (some e) pos :: rest) sl [] Nx ((fun (y : γ) v B hp' => hp' = [] ∧ (R y).p v B) y) := dss_ret he fun v B h => ⟨rfl, h⟩
theorem ok_is_number (Y : Bi mg) (F : FnD K d_is_number f fd) : FnOk P w K mg base CX0 1 f fd ["thing"] (spP (γ := Int) (fun i => [isI i]) (fun _ => True) (fun _ => isB true)) := by
  refine ok_ds F sc_is_number _ _ _ _ (fun _ => rfl) fun i _ cdv A outer s H E hr => ?_
  refine dss_ret (A := isB (true && true)) (de_and0 ?_ (fun _ => de_one ?_)) fun v B h => ⟨rfl, h⟩
  · exact de_callB call_isi (rc_isi (d := .int i) kit_ii) Y.isinstance bt_isinstance (da_cons (de_var 0 rfl) (da_cons (de_bi Y.int bt_int) da_nil))
  · exact de_not (t := false) (de_callB call_isi (rc_isi (d := .int i) kit_ib) Y.isinstance bt_isinstance (da_cons (de_var 0 rfl) (da_cons (de_bi Y.bool bt_bool) da_nil)))
end
end PK
end
section
set_option Elab.async false
set_option linter.all false
set_option maxRecDepth 100000
set_option maxHeartbeats 2000000
namespace PK
open PySem PySem.Spec PyProof.Rows L2
open PM (Want manyP manyF ls letsL)

abbrev Wt := PM.Want Str
abbrev Rws := PM.Rows Str
def eRow (r : Str × Str × Int) : PyData := .tuple [.str r.1, .str r.2.1, .int r.2.2]
def eRows (rs : Rws) : PyData := .tuple (rs.map eRow)
def eWant (w : Wt) : PyData := .tuple [.str w.f, .tuple (w.sh.map .str), .int w.n]
def eWants (ws : List Wt) : PyData := .tuple (ws.map eWant)
def eWays (ws : List (List Wt)) : PyData := .tuple (ws.map eWants)
def eSheet (s : List (List (List Wt))) : PyData := .tuple (s.map eWays)
def optS : Option Str → PyData
  | none => .none
  | some s => .str s
abbrev HC (K : PySem.W.Frag) : Addr := He.ga K "Heap"
def isHeap (C : Addr) (rows : Rws) : MA := ⟨fun v B => ∃ a dx u, v = .ref a ∧ B a = some (.ins C dx [("parts", u)]) ∧ Rp B u (eRows rows), fun e ⟨a, dx, u, h1, h2, h3⟩ => ⟨a, dx, u, h1, e _ _ h2, h3.mono e⟩⟩
/-- the class -/
structure Hc (K : PySem.W.Frag) : Prop where
  cl : Cls K (HC K)
  na : NoAttr K (HC K) "parts"
theorem Wd.hc {K : PySem.W.Frag} {mg : Str → Option Value} (W : Wd K mg) : Hc K := ⟨He.cls_ok (W.c.fact 71 rfl), He.noat_ok (W.c.fact 77 rfl)⟩
section
variable {X : Cx} {sl : SL} {hp hp1 : List Cell} {e : Expr} {pos : Pos} {rows : Rws}
theorem de_parts (Z : Hc X.K) (he : DE X e sl hp (isHeap (HC X.K) rows) hp1) (hb : attributeBase e "parts" X.env (eval e X.env) = eval e X.env := by rfl) : DE X (.Attribute e "parts" pos) sl hp (isD (eRows rows)) hp1 :=
  pe_imp (pe_fld he hb) fun σ H Q ⟨Z', B, S, T, k⟩ => ⟨Z', B, S, T, fun v B' H' m S' ⟨a, dx, u, h1, h2, h3⟩ => ⟨a, HC X.K, dx, _, u, h1, S'.bh _ _ h2, Z.cl, Z.na, by simp [List.lookup], k u B' H' m S' h3⟩⟩
end
/-- a tuple's place, by its number -/
theorem ix0 {a : PyData} {xs : List PyData} : atI (a :: xs) 0 = some a := by unfold atI ixN; simp
theorem ix1 {a b : PyData} {xs : List PyData} : atI (a :: b :: xs) 1 = some b := atI_nat' (j := 1) rfl
theorem ix2 {a b c : PyData} {xs : List PyData} : atI (a :: b :: c :: xs) 2 = some c := atI_nat' (j := 2) rfl
theorem eqV_ss {a b : Str} : eqV (.str a) (.str b) = decide (a = b) := by
  show (a == b) = decide (a = b)
  by_cases h : a = b
  · subst h; simp
  · rw [decide_eq_false h]; exact beq_false_of_ne h
theorem eqV_ns {a : Str} : eqV .non (.str a) = false := rfl
theorem eqV_sn {a : Str} : eqV (.str a) .non = false := rfl
theorem eqV_nn : eqV .non .non = true := rfl
section
variable {P : Program} {w : World} {K : PySem.W.Frag} {mg : Str → Option Value} {base : Heap} {f : Addr} {fd : FuncData}
/-- how many of a part, of a form -/
def manyO (rows : Rws) (f : Str) : Option Str → Int
  | none => manyF rows f
  | some s => manyP rows f s
theorem manyO_eq {rows : Rws} {f : Str} {o : Option Str} : (((rows.filter fun r => decide (r.1 = f) && inD (optS o) [.none, .str r.2.1]).map fun r => r.2.2)).sum = manyO rows f o := by
  cases o with
  | none =>
    unfold manyO manyF ls
    congr 2
    apply List.filter_congr
    intro r _
    simp [inD, optS, toV, inV, eqV_nn]
  | some s =>
    unfold manyO manyP ls
    congr 2
    apply List.filter_congr
    intro r _
    simp [inD, optS, toV, inV, eqV_ns, eqV_ss]
abbrev spMany (K : PySem.W.Frag) : Sp := spP (γ := Rws × Str × Option Str) (fun y => [isHeap (HC K) y.1, isS y.2.1, isD (optS y.2.2)]) (fun y => y.1.length ≤ 1000) (fun y => isI (manyO y.1 y.2.1 y.2.2))
theorem ok_many (Y : Bi mg) (Z : Hc K) (F : FnD K d_h_many f fd) : FnOk P w K mg base CX0 1 f fd ["self", "form", "shade"] (spMany K) := by
  refine ok_ds F sc_h_many _ _ _ _ (fun _ => rfl) fun y hy cdv A outer s H E hr => ?_
  obtain ⟨rows, fm, o⟩ := y
  have hy' : rows.length ≤ 1000 := hy
  refine dss_ret (de_eq (de_callB (cr_sum rfl) (rc_sum (ns := (rows.filter fun r => decide (r.1 = fm) && inD (optS o) [.none, .str r.2.1]).map fun r => r.2.2)) Y.sum bt_sum (da_cons (de_eq (de_lcD (xs := rows) [("row", 3)] [3] (fun r => [isD (eRow r)]) (fun r => decide (r.1 = fm) && inD (optS o) [.none, .str r.2.1]) (fun r => .int r.2.2) sc_h_many.nd
    (di_tup (f := eRow) (de_parts Z (de_var 0 rfl))) (by show blkC N_h_many (defScope s_h_many) _ _ = true; decide +kernel) (fun r _ s H C cl fp => dg_name 3 sc_h_many.nd rfl (Or.inl rfl)) (fun r _ s H C cl fp => dts_one (dt_w (dw_and ?_ fun _ => dw_and1 ?_))) (fun r _ _ s H C cl fp => ?_) ?_) ?_) da_nil)) ?_) fun v B h => ⟨rfl, h⟩
  · exact dt_cmp op_eq re_eqS (de_ixT ix0 (de_var 3 rfl) de_int) (de_var 1 rfl)
  · exact dt_cmp op_in_seq (re_in (neg := false) (by cases o <;> rfl) rfl) (de_var 2 rfl) (de_tup (ds := [.none, .str r.2.1]) (da_cons de_non (da_cons (de_ixT ix1 (de_var 3 rfl) de_int) da_nil)))
  · exact de_ixT ix2 (de_var 3 rfl) de_int
  · exact Nat.le_trans hy' (by decide)
  · rw [List.map_map]; rfl
  · rw [manyO_eq]
theorem ok_rows (Z : Hc K) (F : FnD K d_h_rows f fd) : FnOk P w K mg base CX0 1 f fd ["self"] (spP (γ := Rws) (fun y => [isHeap (HC K) y]) (fun y => True) (fun y => isD (eRows y))) := by
  refine ok_ds F sc_h_rows _ _ _ _ (fun _ => rfl) fun y hy cdv A outer s H E hr => ?_
  exact dss_ret (de_parts Z (de_var 0 rfl)) fun v B h => ⟨rfl, h⟩
abbrev cMany (P : Program) (w : World) (K : PySem.W.Frag) (mg : Str → Option Value) (base : Heap) (k : Nat) : Prop := C8.Met P w K mg base k (HC K) "many" (spMany K) []
end
section
def mask : List Bool → SL → SL
  | true :: ms, a :: s => a :: mask ms s
  | false :: ms, _ :: s => none :: mask ms s
  | _, s => s
theorem wk_mask : ∀ (ms : List Bool) (s : SL), Wk s (mask ms s)
  | true :: ms, a :: s => ⟨Ent.rfl', wk_mask ms s⟩
  | false :: ms, _ :: s => ⟨Ent.non, wk_mask ms s⟩
  | [], s => Wk.refl s
  | true :: _, [] => True.intro
  | false :: _, [] => True.intro
variable {X : Cx} {sl : SL} {hp hp1 : List Cell} {o e e2 : Expr} {pos apos : Pos} {rows : Rws} {fm s : Str} {k j : Nat}
theorem heap_no {C : Addr} {m : Str} (hm : (m == ("parts" : Str)) = false) : ∀ v B, (isHeap C rows).p v B → ∃ a dx fs, v = .ref a ∧ B a = some (.ins C dx fs) ∧ fs.lookup m = none :=
  fun v B ⟨a, dx, u, h1, h2, h3⟩ => ⟨a, dx, _, h1, h2, by simp [List.lookup, hm]⟩
theorem de_many2 {pl : Sem Bool} (c : C8.Met X.prog X.w X.K X.mg X.base k (HC X.K) "many" (spMany X.K) []) (hr : Room j X.A) (hk : k ≤ j) (hz : rows.length ≤ 1000) (ho : DE X o sl hp (isHeap (HC X.K) rows) hp) (h1 : DE X e sl hp (isS fm) hp) (h2 : DE X e2 sl hp (isS s) hp)
    (hst : starEach [e, e2] X.env = (false, eval e X.env) :: starEach [e2] X.env := by rfl) (hst2 : starEach [e2] X.env = (false, eval e2 X.env) :: starEach [] X.env := by rfl) (hpl : (backTo pos (starEach [e2] X.env)).any (·.1) = false := by rfl)
    (ht : eval (.Call (.Attribute o "many" apos) [e, e2] [] pos) X.env = (do
      let ov ← eval o X.env
      standAt apos.atName
      let (f, first) ← holding [ov] (getMethod ov "many" pl)
      callWith pos f first (backTo pos (starEach [e, e2] X.env)) (backToKw pos (keywordEach [] X.env))) := by rfl) : DE X (.Call (.Attribute o "many" apos) [e, e2] [] pos) sl hp (isI (manyP rows fm s)) hp :=
  de_meth c hr hk (rows, fm, some s) hz ho (heap_no (by decide)) (da_cons h1 (da_cons h2 da_nil hst2) hst) (fun B v vs h1 h2 => by
    rw [List.append_nil]; exact .cons h1 h2) hst hpl ht
end
section
variable {P : Program} {w : World} {K : PySem.W.Frag} {mg : Str → Option Value} {base : Heap} {f : Addr} {fd : FuncData}
abbrev spLacking (K : PySem.W.Frag) : Sp := spP (γ := Rws × Rws) (fun y => [isHeap (HC K) y.1, isHeap (HC K) y.2]) (fun y => y.1.length ≤ 1000 ∧ ∀ r ∈ y.2, r.2.2 ≤ manyP y.1 r.1 r.2.1) (fun y => isD (.tuple []))
theorem ok_rows_lacking (Y : Bi mg) (Z : Hc K) (c : cMany P w K mg base 1) (F : FnD K d_h_rows_lacking f fd) : FnOk P w K mg base CX0 2 f fd ["self", "other"] (spLacking K) := by
  refine ok_ds F sc_h_rows_lacking _ _ _ _ (fun _ => rfl) fun y hy cdv A outer s H E hr => ?_
  obtain ⟨rows, others⟩ := y
  obtain ⟨hy1, hy2⟩ := hy
  refine dss_newL (i := 2) (fun a ha => ?_) sc_h_rows_lacking.nd
  refine dss_for (di_tup (f := eRow) (xs := others) (de_parts Z (de_var 1 rfl))) [3, 4, 5] (fun r => [isS r.1, isS r.2.1, isI r.2.2]) (fun r _ => dg_tup3 rfl (fun A => dg_name 3 sc_h_rows_lacking.nd rfl (Or.inl rfl)) (fun A => dg_name 4 sc_h_rows_lacking.nd rfl (Or.inl rfl)) (fun A => dg_name 5 sc_h_rows_lacking.nd rfl (Or.inl rfl)))
    (fun i s h => s = [some (isHeap (HC K) rows), some (isHeap (HC K) others), some (isV (.ref a)), none, none, none, none] ∧ h = [⟨a, oL []⟩]) ⟨rfl, rfl⟩ ?_ ?_
  · rintro i r s h hx ⟨rfl, rfl⟩
    have hr2 := hy2 r (List.mem_of_getElem? hx)
    refine dss_set (i := 6) (de_op op_sub re_I0 (de_var 5 rfl) (de_many2 c hr (Nat.le_refl _) hy1 (de_var 0 rfl) (de_var 3 rfl) (de_var 4 rfl))) ?_ sc_h_rows_lacking.nd
    refine dss_ifr (dt_eq (dt_cmp op_gt re_B0 (de_var 6 rfl) de_int) (u := false) ?_) (fun h => by cases h) (fun _ => dss_nil (wk_mask [true, true, true, false, false, false, false] _) ⟨rfl, rfl⟩)
    simp; omega
  · rintro s h ⟨rfl, rfl⟩
    refine dss_freeze (hp := []) (hp' := []) 2 rfl ha ?_
    exact dss_ret (de_callTy call_tuple_of rc_tupleL Y.tuple bt_tuple (da_cons (de_var 2 rfl) da_nil)) fun v B h => ⟨rfl, h⟩
end
end PK
end
section
set_option Elab.async false
set_option linter.all false
set_option maxRecDepth 100000
set_option maxHeartbeats 2000000
namespace PK
open PySem PySem.Spec PyProof.Rows L2
open PM (Want manyP manyF ls letsL)

/-- an iterator's items, told another way -/
theorem di_map {X : Cx} {tg it : Expr} {α β : Type} {sl : SL} {hp hp' : List Cell} {xs : List α} {h : α → β} {I : β → MA} {F : List (Addr × HO)} (d : DIF X tg it sl hp (xs.map h) I hp' F) : DIF X tg it sl hp xs (fun x => I (h x)) hp' F := by
  obtain ⟨wi, w1, w2⟩ := d.ex
  refine ⟨wi, w1, fun σ H R ⟨Z, B, S, T, k⟩ => w2 σ H R ⟨Z, B, S, T, fun B' H' J m S' W => k B' H' J m S' ⟨fun i H hi => W.goes i H (by rw [List.length_map]; exact hi), fun H => ?_, fun i x H v H' hx => W.yields i (h x) H v H' (by rw [List.getElem?_map, hx]; rfl)⟩⟩⟩
  have := W.stops H
  rw [List.length_map] at this
  exact this
/-- the signs of a text -/
theorem di_str {X : Cx} {tg e : Expr} {sl : SL} {hp hp1 : List Cell} {x : Str} (h : DE X e sl hp (isS x) hp1) : DI X tg e sl hp x.cps.toList (fun c => isS ⟨#[c]⟩) hp1 := by
  refine ⟨_, pi_str h, fun σ H R ⟨Z, B, S, T, k⟩ => ⟨Z, B, S, T, fun v B1 H1 m1 S1 q1 => ?_⟩⟩
  cases q1
  refine ⟨x, rfl, k B1 H1 _ m1 S1 ⟨fun i H hi m _ => ?_, fun H m _ => ?_, fun i c H v H' hx m y => ?_⟩⟩
  · exact (by simpa using hi : i < x.cps.size)
  · exact (by simp : x.cps.size ≤ x.cps.toList.length)
  · obtain ⟨rfl, c', h1, rfl⟩ := y
    refine .inl ⟨rfl, ?_⟩
    have : c' = c := by
      have h2 : x.cps[i]? = some c := by simpa using hx
      rw [h1] at h2; exact Option.some.inj h2
    subst this
    exact .str _
theorem zip_maps {α β γ δ : Type} (f : α → γ) (g : β → δ) : ∀ (xs : List α) (ys : List β), (xs.map f).zip (ys.map g) = (xs.zip ys).map fun q => (f q.1, g q.2)
  | [], _ => rfl
  | _ :: _, [] => rfl
  | a :: xs, b :: ys => by simp [zip_maps f g xs ys]
section
variable {X : Cx} {e e2 : Expr} {sl : SL} {hp hp1 hp2 : List Cell} {pos p tpos : Pos} {elts : List Expr} {kk : Nat} {α β : Type}
theorem di_zip {xs : List α} {ys : List β} {f : α → PyData} {g : β → PyData} (hm : X.mg "zip" = none) (h : DE X e sl hp (isD (.tuple (xs.map f))) hp1) (h2 : DE X e2 sl hp1 (isD (.tuple (ys.map g))) hp2) (hg : Gl X "zip" := by rfl) (hs : starEach [e, e2] X.env = (false, eval e X.env) :: starEach [e2] X.env := by rfl) (hs2 : starEach [e2] X.env = (false, eval e2 X.env) :: starEach [] X.env := by rfl) (hpl : (backTo pos (starEach [e2] X.env)).any (·.1) = false := by rfl) :
    DI X (.Tuple elts kk tpos) (.Call (.Name "zip" p) [e, e2] [] pos) sl hp (xs.zip ys) (fun q => isD (.tuple [f q.1, g q.2])) hp2 :=
  di_map (h := fun q : α × β => (f q.1, g q.2)) (I := fun q : PyData × PyData => isD (.tuple [q.1, q.2])) (by rw [← zip_maps]; exact di_zipTT hm h h2 hg hs hs2 hpl)
theorem di_zipL {xs : List α} {ys : List β} {f : α → PyData} {g : β → PyData} (hm : X.mg "zip" = none) (h : DE X e sl hp (isD (.tuple (xs.map f))) hp1) (h2 : DE X e2 sl hp1 (isD (.list (ys.map g))) hp2) (hg : Gl X "zip" := by rfl) (hs : starEach [e, e2] X.env = (false, eval e X.env) :: starEach [e2] X.env := by rfl) (hs2 : starEach [e2] X.env = (false, eval e2 X.env) :: starEach [] X.env := by rfl) (hpl : (backTo pos (starEach [e2] X.env)).any (·.1) = false := by rfl) :
    DI X (.Tuple elts kk tpos) (.Call (.Name "zip" p) [e, e2] [] pos) sl hp (xs.zip ys) (fun q => isD (.tuple [f q.1, g q.2])) hp2 :=
  di_map (h := fun q : α × β => (f q.1, g q.2)) (I := fun q : PyData × PyData => isD (.tuple [q.1, q.2])) (by rw [← zip_maps]; exact di_zipTL hm h h2 hg hs hs2 hpl)
end
theorem hu64 {A : Around} {k : Nat} (hr : Room k A) : A.units + 64 < cLine := hr.units
theorem eqv_nil {xs : List PyData} : PyData.eqv (.tuple xs) (.tuple []) = xs.isEmpty := by cases xs <;> simp [PyData.eqv, PyData.eqvAll]
theorem eqvL_nil {xs : List PyData} : PyData.eqv (.list xs) (.list []) = xs.isEmpty := by cases xs <;> simp [PyData.eqv, PyData.eqvAll]
def ePart (p : Str × Str) : PyData := .tuple [.str p.1, .str p.2]
def formsL : List Str := ["a", "ab", "brick"]
def shadesL : List Str := ["b", "blue", "r", "reddish"]
structure OkW (w : Wt) : Prop where
  f : w.f ∈ formsL
  sh : w.sh.Sublist shadesL
  n1 : 1 ≤ w.n
  n2 : w.n ≤ 2
structure OkR (rows : Rws) : Prop where
  nd : (rows.map fun r => (r.1, r.2.1)).Nodup
  f : ∀ r ∈ rows, r.1 ∈ formsL
  s : ∀ r ∈ rows, r.2.1 ∈ shadesL
  n1 : ∀ r ∈ rows, 1 ≤ r.2.2
  n2 : ∀ r ∈ rows, r.2.2 ≤ 2
  len : rows.length ≤ 12
theorem OkR.len' {rows : Rws} (h : OkR rows) : rows.length ≤ 1000 := Nat.le_trans h.len (by decide)
theorem OkW.len {w : Wt} (h : OkW w) : w.sh.length ≤ 4 := h.sh.length_le
theorem canLay_strs : ∀ {l : List Str}, (∀ s ∈ l, PySem.PyData.strOk s = true) → PyData.canLayAll0 (l.map .str) = true
  | [], _ => rfl
  | a :: l, h => by
    have h1 := canLay_strs (l := l) fun s hs => h s (List.mem_cons_of_mem _ hs)
    simp [PyData.canLayAll0, PyData.canLay0, h a (List.mem_cons_self ..), h1]
theorem depth_strs : ∀ l : List Str, PyData.depthAll (l.map .str) = 0
  | [] => rfl
  | a :: l => by simp [PyData.depthAll, PyData.depth, depth_strs l]
theorem shades_ok : ∀ s ∈ shadesL, PySem.PyData.strOk s = true := by decide +kernel
theorem forms_ok : ∀ s ∈ formsL, PySem.PyData.strOk s = true := by decide +kernel
theorem shaped_strs {l : List Str} (h : ∀ s ∈ l, s ∈ shadesL) : SeqAt.shaped (.tuple (l.map .str)) = true := by
  unfold SeqAt.shaped
  rw [Bool.and_eq_true]
  exact ⟨canLay_strs fun s hs => shades_ok s (h s hs), by simp [PyData.depth, depth_strs]⟩
section
variable {P : Program} {w : World} {K : PySem.W.Frag} {mg : Str → Option Value} {base : Heap} {f : Addr} {fd : FuncData}
abbrev spHolds (K : PySem.W.Frag) : Sp := spP (γ := Rws × Rws) (fun y => [isHeap (HC K) y.1, isHeap (HC K) y.2]) (fun y => y.1.length ≤ 1000 ∧ ∀ r ∈ y.2, r.2.2 ≤ manyP y.1 r.1 r.2.1) (fun y => isB true)
theorem ok_holds (c : C8.Met P w K mg base 2 (HC K) "rows_lacking" (spLacking K) []) (F : FnD K d_h_holds f fd) : FnOk P w K mg base CX0 3 f fd ["self", "other"] (spHolds K) := by
  refine ok_ds F sc_h_holds _ _ _ _ (fun _ => rfl) fun y hy cdv A outer s H E hr => ?_
  refine dss_ret (A := isB true) (de_eq (d := .bool (PyData.eqv (.tuple []) (.tuple []))) (de_cmp (op_eqD (hu64 hr)) (re_eqD rfl rfl) (hp1 := []) ?_ (de_tup (ds := []) da_nil)) rfl) fun v B h => ⟨rfl, h⟩
  exact de_meth c hr (Nat.le_refl _) y hy (de_var 0 rfl) (heap_no (by decide)) (da_cons (de_var 1 rfl) da_nil) (fun B v vs h1 h2 => by rw [List.append_nil]; exact .cons h1 h2)
abbrev spLets (K : PySem.W.Frag) : Sp := spP (γ := Rws × Wt) (fun y => [isHeap (HC K) y.1, isD (eWant y.2)]) (fun y => y.1.length ≤ 1000 ∧ OkW y.2) (fun y => isD (.list ((letsL y.1 y.2).map ePart)))
theorem ok_lets (Y : Bi mg) (c : C8.Met P w K mg base 1 (HC K) "rows" (spP (γ := Rws) (fun y => [isHeap (HC K) y]) (fun y => True) (fun y => isD (eRows y))) []) (F : FnD K d_lets f fd) : FnOk P w K mg base CX0 2 f fd ["heap", "want"] (spLets K) := by
  refine ok_ds F sc_lets _ _ _ _ (fun _ => rfl) fun y hy cdv A outer s H E hr => ?_
  obtain ⟨rows, wt⟩ := y
  obtain ⟨hy1, hy2⟩ := hy
  refine dss_ifr (dt_cmp (op_neD (hu64 hr)) (re_neD (d := .tuple (wt.sh.map .str)) (e := .tuple []) (shaped_strs fun s hs => hy2.sh.subset hs) rfl) (de_ixT ix1 (de_var 1 rfl) de_int) (de_tup (ds := []) da_nil)) (fun h => ?_) (fun h => ?_)
  · rw [eqv_nil] at h
    have hne : wt.sh ≠ [] := by intro z; rw [z] at h; simp at h
    refine dss_ret (de_eq (de_lcD (xs := wt.sh) [("shade", 3)] [3] (fun r => [isS r]) (fun r => true) (fun r => ePart (wt.f, r)) sc_lets.nd
      (di_tup (f := .str) (de_ixT ix1 (de_var 1 rfl) de_int)) (by show blkC N_lets (defScope s_lets) _ _ = true; decide +kernel) (fun r _ s H C cl fp => dg_name 3 sc_lets.nd rfl (Or.inl rfl)) (fun r _ s H C cl fp => dts_nil)
      (fun r _ _ s H C cl fp => de_tup (ds := [.str wt.f, .str r]) (da_cons (de_ixT ix0 (de_var 1 rfl) de_int) (da_cons (de_var 3 rfl) da_nil))) (Nat.le_trans hy2.len (by decide))) ?_) fun v B h => ⟨rfl, h⟩
    simp [letsL, hne, List.filter_eq_self, ePart, Function.comp_def]
    rw [List.filter_eq_self.mpr fun _ _ => rfl]
  · rw [eqv_nil] at h
    have he : wt.sh = [] := by cases hh : wt.sh with
      | nil => rfl
      | cons a l => rw [hh] at h; simp at h
    refine dss_ret (de_eq (de_lcD (xs := rows) [("form", 2), ("shade", 3), ("many", 4)] [2, 3, 4] (fun r => [isS r.1, isS r.2.1, isI r.2.2]) (fun r => decide (r.1 = wt.f)) (fun r => ePart (r.1, r.2.1)) sc_lets.nd
      (hp1 := []) (di_tup (f := eRow) ?_) (by show blkC N_lets (defScope s_lets) _ _ = true; decide +kernel)
      (fun r _ s H C cl fp => dg_tup3 rfl (fun A => dg_name 2 sc_lets.nd rfl (Or.inl rfl)) (fun A => dg_name 3 sc_lets.nd rfl (Or.inl rfl)) (fun A => dg_name 4 sc_lets.nd rfl (Or.inl rfl)))
      (fun r _ s H C cl fp => dts_one (dt_cmp op_eq re_eqS (de_var 2 rfl) (de_ixT ix0 (de_var 1 rfl) de_int)))
      (fun r _ _ s H C cl fp => de_tup (ds := [.str r.1, .str r.2.1]) (da_cons (de_var 2 rfl) (da_cons (de_var 3 rfl) da_nil))) (Nat.le_trans hy1 (by decide))) ?_) fun v B h => ⟨rfl, h⟩
    · exact de_meth0 c hr (by omega) rows trivial (de_var 0 rfl) (heap_no (by decide)) (fun B v h => .cons h .nil)
    simp [letsL, he, ePart]
end
end PK
end
section
set_option Elab.async false
set_option linter.all false
set_option maxRecDepth 100000
set_option maxHeartbeats 2000000
namespace PK
open PySem PySem.Spec PyProof.Rows L2
open PM (Want manyP manyF ls letsL)

/-- the module's constants -/
structure Gk (mg : Str → Option Value) : Prop where
  letters : ∃ t, mg "LETTERS" = some (.str "abcdefghijklmnopqrstuvwxyz" t)
  most : ∃ t, mg "MOST_LETTERS" = some (.int 8 t)
theorem Wd.gk {K : PySem.W.Frag} {mg : Str → Option Value} (W : Wd K mg) : Gk mg := by
  obtain ⟨h', X, G⟩ := W.g
  exact ⟨He.str_ok X G (W.c.fact 78 rfl), He.int_ok X G (W.c.fact 79 rfl)⟩
def lettersS : Str := "abcdefghijklmnopqrstuvwxyz"
section
variable {X : Cx} {sl : SL} {hp hp1 : List Cell} {e : Expr} {pos : Pos} {x : Str}
theorem de_globI {i : Int} (h : ∃ t, X.mg x = some (.int i t)) (hg : Gl X x := by rfl) (hd : (x == ("__debug__" : Str)) = false := by decide) : DE X (.Name x pos) sl hp (isI i) hp := by
  obtain ⟨t, h⟩ := h
  exact de_c (pe_glob hg h (show RelV (.int i) (.int i t) from ⟨t, rfl⟩) hd) fun _ => .int i
theorem de_globS {s : Str} (h : ∃ t, X.mg x = some (.str s t)) (hg : Gl X x := by rfl) (hd : (x == ("__debug__" : Str)) = false := by decide) : DE X (.Name x pos) sl hp (isS s) hp := by
  obtain ⟨t, h⟩ := h
  exact de_c (pe_glob hg h (show RelV (.str s) (.str s t) from ⟨t, rfl⟩) hd) fun _ => .str s
end
theorem re_inSign {c : Nat} {z : Str} : RE (fun x y H Q => ∃ (c : Nat) (z : Str), x = .str ⟨#[c]⟩ ∧ y = .str z ∧ Q (.bl (decide (c ∈ z.cps.toList))) H) (isS ⟨#[c]⟩) (isS z) (isB (decide (c ∈ z.cps.toList))) := fun Z B H hp x y Q S hx hy k => by
  cases hx; cases hy
  exact ⟨c, z, rfl, rfl, k _ B H (Same.refl B) S (.bl _)⟩
theorem re_ltS {x y : Str} : RE (fun x y H Q => ∃ i j, x = .str i ∧ y = .str j ∧ Q (.bl (decide (i.cps.toList < j.cps.toList))) H) (isS x) (isS y) (isB (decide (x.cps.toList < y.cps.toList))) := fun Z B H hp v w Q S hx hy k => by
  cases hx; cases hy
  exact ⟨x, y, rfl, rfl, k _ B H (Same.refl B) S (.bl _)⟩
section
variable {X : Cx} {sl : SL} {hp : List Cell} {a b c : Expr} {pos : Pos} {i j k : Int}
theorem dt_chain {op op' : CmpOp} {f g : Int → Int → Bool} (ho : OpR X (compareOp op) (rI0 fun i j => .bl (f i j))) (ho' : OpR X (compareOp op') (rI0 fun i j => .bl (g i j))) (ha : DE X a sl hp (isI i) hp) (hb : DE X b sl hp (isI j) hp) (hc : DE X c sl hp (isI k) hp)
    (hm : lastMarks [op, op'] [b, c] = false := by with_unfolding_all rfl) : DT X (.Compare a [op, op'] [b, c] pos) sl hp (f i j && g j k) hp :=
  pt_imp (pt_chain ho ho' ha hb hc hm) fun σ H Q ⟨Z, B, S, T, q⟩ => ⟨Z, B, S, T, fun x B1 H1 m1 S1 q1 => ⟨Z, B1, S1, T.mono m1, fun y B2 H2 m2 S2 q2 => by
    cases q1; cases q2
    refine ⟨i, j, rfl, rfl, f i j, rfl, ?_⟩
    cases e : f i j with
    | true =>
      refine iteT ⟨Z, B2, S2, T.mono (m1.trans m2), fun z B3 H3 m3 S3 q3 => ?_⟩
      cases q3
      exact ⟨j, k, rfl, rfl, g j k, rfl, by have := q B3 H3 (m1.trans (m2.trans m3)) S3; rw [e, Bool.true_and] at this; exact this⟩
    | false => exact iteF ⟨false, rfl, by have := q B2 H2 (m1.trans m2) S2; rw [e, Bool.false_and] at this; exact this⟩⟩⟩
end
def wordsL : List Str := formsL ++ shadesL
theorem words_len : ∀ x ∈ wordsL, (decide ((1 : Int) ≤ (x.length : Int)) && decide ((x.length : Int) ≤ 8)) = true := by decide +kernel
theorem words_in : ∀ x ∈ wordsL, (x.cps.toList.map fun c => decide (c ∈ lettersS.cps.toList)).all id = true := by decide +kernel
theorem words_size : ∀ x ∈ wordsL, x.cps.toList.length ≤ 10 := by decide +kernel
theorem map_true {α : Type} (xs : List α) : (xs.map fun _ => true).all id = true := by simp
section
variable {P : Program} {w : World} {K : PySem.W.Frag} {mg : Str → Option Value} {base : Heap} {f : Addr} {fd : FuncData}
abbrev spWord : Sp := spP (γ := Str) (fun y => [isS y]) (fun y => y ∈ wordsL) (fun y => isB true)
theorem ok_is_word (Y : Bi mg) (G : Gk mg) (F : FnD K d_is_word f fd) : FnOk P w K mg base CX0 1 f fd ["thing"] spWord := by
  refine ok_ds F sc_is_word _ _ _ _ (fun _ => rfl) fun x hx cdv A outer s H E hr => ?_
  have hx' : x ∈ wordsL := hx
  refine dss_ifr (b := false || false) (dt_w (dw_or (dt_not (t := true) (dt_val ?_)) (fun _ => dw_or1 (dt_not (t := true) (dt_eq (dt_chain (j := (x.length : Int)) op_le op_le de_int ?_ (de_globI G.most)) ?_))))) (fun h => by cases h) fun _ => ?_
  · exact de_callB call_isi (rc_isi (d := .str x) kit_ss) Y.isinstance bt_isinstance (da_cons (de_var 0 rfl) (da_cons (de_bi Y.str bt_str) da_nil))
  · exact de_callB call_len_str (rc_lenS (Nat.le_trans (words_size x hx') (by decide))) Y.len bt_len (da_cons (de_var 0 rfl) da_nil)
  · exact words_len x hx'
  · refine dss_ret (A := isB true) (de_eq (d := .bool ((x.cps.toList.map fun c => decide (c ∈ lettersS.cps.toList)).all id)) (de_callB (cr_all rfl) rc_all Y.all bt_all (da_cons ?_ da_nil)) (by rw [words_in x hx'])) fun v B h => ⟨rfl, h⟩
    refine de_eq (de_lcD (xs := x.cps.toList) [("sign", 1)] [1] (fun c => [isS ⟨#[c]⟩]) (fun _ => true) (fun c => .bool (decide (c ∈ lettersS.cps.toList))) sc_is_word.nd
      (di_str (de_var 0 rfl)) (by show blkC N_is_word (defScope s_is_word) _ _ = true; decide +kernel) (fun r _ s H C cl fp => dg_name 1 sc_is_word.nd rfl (Or.inl rfl)) (fun r _ s H C cl fp => dts_nil)
      (fun r _ _ s H C cl fp => de_cmp op_in_sign re_inSign (de_var 1 rfl) (de_globS G.letters)) (Nat.le_trans (words_size x hx') (by decide))) ?_
    rw [List.filter_eq_self.mpr fun _ _ => rfl, List.map_map]; rfl
abbrev spNeed : Sp := spP (γ := Str × Int) (fun y => [isB true, isS y.1, isI y.2]) (fun y => True) (fun y => isD .none)
theorem ok_need (F : FnD K d_need f fd) : FnOk P w K mg base CX0 1 f fd ["truth", "word", "at"] spNeed := by
  refine ok_ds F sc_need _ _ _ _ (fun _ => rfl) fun y hy cdv A outer s H E hr => ?_
  exact dss_ifr (dt_not (t := true) (dt_val (de_var 0 rfl))) (fun h => by cases h) fun _ => dss_nil (Wk.refl _) fun B => ⟨rfl, .non⟩
theorem ok_need_node (F : FnD K d_need_node f fd) : FnOk P w K mg base CX0 1 f fd ["truth", "word", "number"] spNeed := by
  refine ok_ds F sc_need_node _ _ _ _ (fun _ => rfl) fun y hy cdv A outer s H E hr => ?_
  exact dss_ifr (dt_not (t := true) (dt_val (de_var 0 rfl))) (fun h => by cases h) fun _ => dss_nil (Wk.refl _) fun B => ⟨rfl, .non⟩
def optN : Option Nat → PyData
  | none => .none
  | some i => .int (i : Int)
abbrev eTk (tk : List (Option Nat)) : PyData := .list (tk.map optN)
abbrev spFree : Sp := spP (γ := List (Option Nat) × Nat) (fun y => [isD (eTk y.1), isI y.2]) (fun y => y.1[y.2]? = some none) (fun y => isB true)
abbrev spNumber : Sp := spP (γ := Int) (fun i => [isI i]) (fun _ => True) (fun _ => isB true)
theorem ok_is_free (Y : Bi mg) (c : C8.Cal P w K mg base 1 "is_number" spNumber []) (F : FnD K d_is_free f fd) : FnOk P w K mg base CX0 2 f fd ["taken", "k"] spFree := by
  refine ok_ds F sc_is_free _ _ _ _ (fun _ => rfl) fun y hy cdv A outer s H E hr => ?_
  obtain ⟨tk, k⟩ := y
  have hy' : tk[k]? = some none := hy
  have hlt : k < tk.length := (List.getElem?_eq_some_iff.mp hy').1
  refine dss_ret (A := isB (true && (true && true))) (de_and0 ?_ fun _ => de_and0 (de_eq (de_chain (k := (tk.length : Int)) op_le op_lt de_int (de_var 1 rfl) ?_) ?_) fun _ => de_one ?_) fun v B h => ⟨rfl, h⟩
  · exact de_callP c hr (Nat.le_refl _) (k : Int) trivial (da_cons (de_var 1 rfl) da_nil)
  · exact de_eq (de_callB call_len_seq rc_lenL Y.len bt_len (da_cons (de_var 0 rfl) da_nil)) (by simp)
  · simp [hlt]
  · exact de_cmp op_isN (re_isN (d := .none)) (de_ixL (atI_nat' (by simp [hy', optN])) (de_var 0 rfl) (de_var 1 rfl)) de_non
/-- where the ways begin -/
def begunL (sheet : List (List (List Wt))) : List (Option Nat) := sheet.map fun ways => if ways.length = 1 then some 0 else none
abbrev spBegun : Sp := spP (γ := List (List (List Wt))) (fun y => [isD (eSheet y)]) (fun y => y.length ≤ 1000) (fun y => isD (eTk (begunL y)))
theorem ok_begun_ways (Y : Bi mg) (F : FnD K d_begun_ways f fd) : FnOk P w K mg base CX0 1 f fd ["sheet"] spBegun := by
  refine ok_ds F sc_begun_ways _ _ _ _ (fun _ => rfl) fun y hy cdv A outer s H E hr => ?_
  have hy' : y.length ≤ 1000 := hy
  refine dss_ret (de_eq (de_lcD (xs := y) [("row", 1)] [1] (fun c => [isD (eWays c)]) (fun _ => true) (fun c => optN (if c.length = 1 then some 0 else none)) sc_begun_ways.nd
      (di_tup (f := eWays) (de_var 0 rfl)) (by show blkC N_begun_ways (defScope s_begun_ways) _ _ = true; decide +kernel) (fun r _ s H C cl fp => dg_name 1 sc_begun_ways.nd rfl (Or.inl rfl)) (fun r _ s H C cl fp => dts_nil)
      (fun r _ _ s H C cl fp => ?_) (Nat.le_trans hy' (by decide))) ?_) fun v B h => ⟨rfl, h⟩
  · refine de_if (t := decide (r.length = 1)) (hp1 := []) (dt_eq (dt_cmp op_eq re_eqI (de_callB call_len_seq (rc_lenT (ds := r.map eWants)) Y.len bt_len (da_cons (de_var 1 rfl) da_nil)) de_int) ?_) (fun h => ?_) fun h => ?_
    · simp; omega
    · rw [if_pos (of_decide_eq_true h)]; exact de_int
    · rw [if_neg (of_decide_eq_false h)]; exact de_non
  · rw [List.filter_eq_self.mpr fun _ _ => rfl]
    show PyData.list (y.map fun c => optN (if c.length = 1 then some 0 else none)) = PyData.list ((y.map _).map optN)
    rw [List.map_map]; rfl
end
end PK
end
section
set_option Elab.async false
set_option linter.all false
set_option maxRecDepth 100000
set_option maxHeartbeats 2000000
namespace PK
open PySem PySem.Spec PyProof.Rows L2
open PM (Want manyP manyF ls letsL)

abbrev Sh := List (List (List Wt))
structure OkS (sheet : Sh) : Prop where
  len : sheet.length ≤ 3
  ways1 : ∀ ways ∈ sheet, 1 ≤ ways.length
  ways3 : ∀ ways ∈ sheet, ways.length ≤ 3
  way : ∀ ways ∈ sheet, ∀ ws ∈ ways, ws.length ≤ 2 ∧ ∀ w ∈ ws, OkW w
structure OkT (sheet : Sh) (tk : List (Option Nat)) : Prop where
  len : tk.length = sheet.length
  at_ : ∀ (k : Nat) (ways : List (List Wt)) (i : Nat), sheet[k]? = some ways → tk[k]? = some (some i) → i < ways.length
structure OkC (sheet : Sh) (cs : List Nat) : Prop where
  len : cs.length = sheet.length
  at_ : ∀ (k : Nat) (ways : List (List Wt)) (i : Nat), sheet[k]? = some ways → cs[k]? = some i → i < ways.length
def wayAt (ways : List (List Wt)) : Option Nat → List Wt
  | none => []
  | some i => ways.getD i []
def takenW (sheet : Sh) (tk : List (Option Nat)) : List Wt := (sheet.zip tk).flatMap fun q => wayAt q.1 q.2
def chosenW (sheet : Sh) (cs : List Nat) : List Wt := (sheet.zip cs).flatMap fun q => q.1.getD q.2 []
theorem flatMap_take {α β : Type} {f : α → List β} {xs : List α} {i : Nat} {x : α} (h : xs[i]? = some x) : (xs.take (i + 1)).flatMap f = (xs.take i).flatMap f ++ f x := by
  rw [List.take_add_one, h]; simp
theorem flatMap_len {α β : Type} {f : α → List β} {n : Nat} : ∀ {xs : List α}, (∀ x ∈ xs, (f x).length ≤ n) → (xs.flatMap f).length ≤ n * xs.length
  | [], _ => by simp
  | x :: xs, h => by
    have h1 := flatMap_len (f := f) (n := n) (xs := xs) fun y hy => h y (List.mem_cons_of_mem _ hy)
    have h2 := h x (List.mem_cons_self ..)
    rw [List.flatMap_cons, List.length_append, List.length_cons, Nat.mul_succ]; omega
theorem getD_mem {α : Type} {xs : List α} {i : Nat} {d : α} (h : i < xs.length) : xs.getD i d ∈ xs := by
  rw [List.getD_eq_getElem?_getD, List.getElem?_eq_getElem h]; exact List.getElem_mem h
theorem getD_get {α : Type} {xs : List α} {i : Nat} {d : α} (h : i < xs.length) : xs[i]? = some (xs.getD i d) := by
  rw [List.getD_eq_getElem?_getD, List.getElem?_eq_getElem h]; rfl
section
variable {sheet : Sh} {tk : List (Option Nat)} {cs : List Nat}
theorem wayAt_len (ok : OkS sheet) {ways : List (List Wt)} (hw : ways ∈ sheet) (o : Option Nat) : (wayAt ways o).length ≤ 2 := by
  cases o with
  | none => simp [wayAt]
  | some i =>
    show (ways.getD i []).length ≤ 2
    by_cases h : i < ways.length
    · exact (ok.way ways hw _ (getD_mem h)).1
    · rw [List.getD_eq_getElem?_getD, List.getElem?_eq_none (by omega)]; simp
theorem zip_fst {α β : Type} {xs : List α} {ys : List β} {q : α × β} (h : q ∈ xs.zip ys) : q.1 ∈ xs := (List.of_mem_zip (show (q.1, q.2) ∈ xs.zip ys from h)).1
theorem takenW_len (ok : OkS sheet) (n : Nat) : (((sheet.zip tk).take n).flatMap fun q => wayAt q.1 q.2).length ≤ 6 := by
  have h1 := flatMap_len (f := fun q : List (List Wt) × Option Nat => wayAt q.1 q.2) (n := 2) (xs := (sheet.zip tk).take n) fun q hq => wayAt_len ok (zip_fst (List.mem_of_mem_take hq)) q.2
  have h2 : ((sheet.zip tk).take n).length ≤ sheet.length := by simp; omega
  have := ok.len
  omega
theorem chosenW_eq : chosenW sheet cs = takenW sheet (cs.map some) := by
  unfold chosenW takenW
  have : sheet.zip (cs.map some) = (sheet.zip cs).map fun q => (q.1, some q.2) := by
    have := zip_maps (fun x : List (List Wt) => x) (some : Nat → Option Nat) sheet cs
    rw [List.map_id'] at this
    exact this
  rw [this, List.flatMap_map]
  rfl
end
theorem di_enum {X : Cx} {e : Expr} {sl : SL} {hp hp1 : List Cell} {pos p tpos : Pos} {elts : List Expr} {kk : Nat} {α : Type} {xs : List α} {f : α → PyData} (hm : X.mg "enumerate" = none) (h : DE X e sl hp (isD (.tuple (xs.map f))) hp1) (hg : Gl X "enumerate" := by rfl) (hs : starEach [e] X.env = [(false, eval e X.env)] := by rfl) (hs2 : starEach [e] X.env = (false, eval e X.env) :: starEach [] X.env := by rfl) :
    DI X (.Tuple elts kk tpos) (.Call (.Name "enumerate" p) [e] [] pos) sl hp (xs.zip (List.range xs.length)) (fun q => isD (.tuple [.int ((q.2 : Nat) : Int), f q.1])) hp1 := by
  refine di_map (h := fun q : α × Nat => (f q.1, q.2)) (I := fun q : PyData × Nat => isD (.tuple [.int ((q.2 : Nat) : Int), q.1])) ?_
  have h1 := di_enumT (tpos := tpos) (elts := elts) (kk := kk) (pos := pos) (p := p) hm h hg hs hs2
  have e1 : (xs.map f).zip (List.range (xs.map f).length) = (xs.zip (List.range xs.length)).map fun q => (f q.1, q.2) := by
    have := zip_maps f (fun i : Nat => i) xs (List.range xs.length)
    rw [List.map_id'] at this
    rw [List.length_map, this]
  rw [e1] at h1
  exact h1
theorem enum_at {α : Type} {xs : List α} {i : Nat} {q : α × Nat} (h : (xs.zip (List.range xs.length))[i]? = some q) : q.2 = i ∧ xs[i]? = some q.1 := by
  rw [List.getElem?_zip_eq_some] at h
  obtain ⟨h1, h2⟩ := h
  obtain ⟨hl, he⟩ := List.getElem?_eq_some_iff.mp h2
  rw [List.getElem_range] at he
  exact ⟨he.symm, h1⟩
theorem enum_take {α : Type} {xs : List α} (n : Nat) : ((xs.zip (List.range xs.length)).take n).map (·.1) = xs.take n := by
  rw [List.map_take, List.map_fst_zip (by simp)]
section
variable {P : Program} {w : World} {K : PySem.W.Frag} {mg : Str → Option Value} {base : Heap} {f : Addr} {fd : FuncData}
abbrev spTaken : Sp := spP (γ := Sh × List (Option Nat)) (fun y => [isD (eSheet y.1), isD (eTk y.2)]) (fun y => OkS y.1 ∧ OkT y.1 y.2) (fun y => isD (eWants (takenW y.1 y.2)))
theorem ok_taken_wants (Y : Bi mg) (F : FnD K d_taken_wants f fd) : FnOk P w K mg base CX0 1 f fd ["sheet", "taken"] spTaken := by
  refine ok_ds F sc_taken_wants _ _ _ _ (fun _ => rfl) fun y hy cdv A outer s H E hr => ?_
  obtain ⟨sheet, tk⟩ := y
  obtain ⟨ok, ot⟩ := hy
  refine dss_set (i := 2) (de_tup (ds := []) da_nil) ?_ sc_taken_wants.nd
  refine dss_for (di_zipL (xs := sheet) (ys := tk) (f := eWays) (g := optN) Y.zip (de_var 0 rfl) (de_var 1 rfl)) [3, 4] (fun q => [isD (eWays q.1), isD (optN q.2)]) (fun r _ => dg_tup2 rfl (fun A => dg_name 3 sc_taken_wants.nd rfl (Or.inl rfl)) (fun A => dg_name 4 sc_taken_wants.nd rfl (Or.inl rfl)))
    (fun i s h => s = [some (isD (eSheet sheet)), some (isD (eTk tk)), some (isD (eWants (((sheet.zip tk).take i).flatMap fun q => wayAt q.1 q.2))), none, none] ∧ h = []) ⟨rfl, rfl⟩ ?_ ?_
  · rintro i q s h hq ⟨rfl, rfl⟩
    have hq2 := List.getElem?_zip_eq_some.mp hq
    refine dss_when (M := fun s h => s = [some (isD (eSheet sheet)), some (isD (eTk tk)), some (isD (eWants (((sheet.zip tk).take (i + 1)).flatMap fun q => wayAt q.1 q.2))), some (isD (eWays q.1)), some (isD (optN q.2))] ∧ h = []) (dt_cmp op_notN (re_notN (d := optN q.2)) (de_var 4 rfl) de_non) (fun hb => ?_) (fun hb => ?_) fun s h ⟨e1, e2⟩ => ?_
    · cases ho : q.2 with
      | none => rw [ho] at hb; cases hb
      | some j =>
        have hj : j < q.1.length := ot.at_ i q.1 j hq2.1 (by rw [hq2.2, ho])
        have hl := takenW_len ok (tk := tk) i
        have hl2 := wayAt_len ok (List.mem_of_getElem? hq2.1) (some j)
        refine dss_set (i := 2) (de_op op_catA (re_catT (es := (q.1.getD j []).map eWant) ?_) (de_var 2 rfl) (de_ixT (d := eWants (q.1.getD j [])) (atI_nat' (j := j) (by rw [List.getElem?_map, getD_get hj] <;> rfl)) (de_var 3 rfl) (de_var 4 rfl))) ?_ sc_taken_wants.nd
        · have : (q.1.getD j []).length ≤ 2 := hl2
          rw [List.length_map, List.length_map]
          exact Nat.le_trans (Nat.add_le_add hl this) (by decide)
        · refine dss_nil (Wk.refl _) ⟨?_, rfl⟩
          rw [flatMap_take hq, ho]
          show _ = [_, _, some (isD (.tuple (List.map eWant (_ ++ q.1.getD j [])))), _, _]
          rw [List.map_append]
          rfl
    · cases ho : q.2 with
      | none =>
        rw [flatMap_take hq, ho]
        refine ⟨?_, rfl⟩
        show _ = [_, _, some (isD (.tuple (List.map eWant (_ ++ [])))), _, _]
        rw [List.append_nil]
        rfl
      | some j => rw [ho] at hb; cases hb
    · subst e1 e2
      exact dss_nil (wk_mask [true, true, true, false, false] _) ⟨rfl, rfl⟩
  · rintro s h ⟨rfl, rfl⟩
    refine dss_ret (de_var 2 rfl) fun v B h => ⟨rfl, ?_⟩
    have e : (sheet.zip tk).take (sheet.zip tk).length = sheet.zip tk := List.take_length
    rw [e] at h
    exact h
end
end PK
end
section
set_option Elab.async false
set_option linter.all false
set_option maxRecDepth 100000
set_option maxHeartbeats 2000000
namespace PK
open PySem PySem.Spec PyProof.Rows L2
open PM (Want manyP manyF ls letsL)

section
variable {P : Program} {w : World} {K : PySem.W.Frag} {mg : Str → Option Value} {base : Heap} {f : Addr} {fd : FuncData}
abbrev eCh (cs : List Nat) : PyData := .tuple (cs.map fun i => .int ((i : Nat) : Int))
abbrev spWantsOf : Sp := spP (γ := Sh × List Nat) (fun y => [isD (eSheet y.1), isD (eCh y.2)]) (fun y => OkS y.1 ∧ OkC y.1 y.2) (fun y => isD (eWants (chosenW y.1 y.2)))
/-- what is chosen so far -/
def chosenAt (sheet : Sh) (cs : List Nat) (i : Nat) : List Wt := ((sheet.zip cs).take i).flatMap fun q => q.1.getD q.2 []
theorem chosenAt_end {sheet : Sh} {cs : List Nat} (oc : OkC sheet cs) : chosenAt sheet cs sheet.length = chosenW sheet cs := by
  unfold chosenAt chosenW
  rw [List.take_of_length_le]
  rw [List.length_zip, oc.len]; omega
theorem chosenAt_succ {sheet : Sh} {cs : List Nat} (oc : OkC sheet cs) {i : Nat} {ways : List (List Wt)} (h : sheet[i]? = some ways) : ∃ j, cs[i]? = some j ∧ j < ways.length ∧ chosenAt sheet cs (i + 1) = chosenAt sheet cs i ++ ways.getD j [] := by
  have hl := (List.getElem?_eq_some_iff.mp h).1
  have hlc : i < cs.length := by rw [oc.len]; exact hl
  have h2 : cs[i]? = some cs[i] := List.getElem?_eq_getElem (by rw [oc.len]; exact hl)
  refine ⟨cs[i], h2, oc.at_ i ways _ h h2, ?_⟩
  unfold chosenAt
  rw [flatMap_take (x := (ways, cs[i])) (List.getElem?_zip_eq_some.mpr ⟨h, h2⟩)]
theorem chosenAt_len {sheet : Sh} {cs : List Nat} (ok : OkS sheet) (i : Nat) : (chosenAt sheet cs i).length ≤ 6 := by
  have h1 := flatMap_len (f := fun q : List (List Wt) × Nat => q.1.getD q.2 []) (n := 2) (xs := (sheet.zip cs).take i) fun q hq => wayAt_len ok (zip_fst (List.mem_of_mem_take hq)) (some q.2)
  have h2 : ((sheet.zip cs).take i).length ≤ sheet.length := by simp; omega
  have := ok.len
  unfold chosenAt
  omega
theorem ok_wants_of (Y : Bi mg) (F : FnD K d_wants_of f fd) : FnOk P w K mg base CX0 1 f fd ["sheet", "choice"] spWantsOf := by
  refine ok_ds F sc_wants_of _ _ _ _ (fun _ => rfl) fun y hy cdv A outer s H E hr => ?_
  obtain ⟨sheet, cs⟩ := y
  obtain ⟨ok, oc⟩ := hy
  refine dss_set (i := 2) (de_tup (ds := []) da_nil) ?_ sc_wants_of.nd
  refine dss_for (di_enum (xs := sheet) (f := eWays) Y.enumerate (de_var 0 rfl)) [3, 4] (fun q => [isI ((q.2 : Nat) : Int), isD (eWays q.1)]) (fun r _ => dg_tup2 rfl (fun A => dg_name 3 sc_wants_of.nd rfl (Or.inl rfl)) (fun A => dg_name 4 sc_wants_of.nd rfl (Or.inl rfl)))
    (fun i s h => s = [some (isD (eSheet sheet)), some (isD (eCh cs)), some (isD (eWants (chosenAt sheet cs i))), none, none] ∧ h = []) ⟨rfl, rfl⟩ ?_ ?_
  · rintro i q s h hq ⟨rfl, rfl⟩
    obtain ⟨hq1, hq2⟩ := enum_at hq
    obtain ⟨j, hj1, hj2, hj3⟩ := chosenAt_succ oc hq2
    have hl := chosenAt_len (cs := cs) ok i
    have hl2 : (q.1.getD j []).length ≤ 2 := wayAt_len ok (List.mem_of_getElem? hq2) (some j)
    refine dss_set (i := 2) (de_op op_catA (re_catT (es := (q.1.getD j []).map eWant) ?_) (de_var 2 rfl) (de_ixT (i := (j : Int)) (d := eWants (q.1.getD j [])) (atI_nat' (by rw [List.getElem?_map, getD_get hj2] <;> rfl)) (de_var 4 rfl) ?_)) (dss_nil (wk_mask [true, true, true, false, false] _) ⟨?_, rfl⟩) sc_wants_of.nd
    · rw [List.length_map, List.length_map]
      exact Nat.le_trans (Nat.add_le_add hl hl2) (by decide)
    · refine de_if (t := false) (dt_cmp op_isN (re_isN (d := eCh cs)) (de_var 1 rfl) de_non) (fun h => by cases h) fun _ => de_ixT (atI_nat' ?_) (de_var 1 rfl) (de_var 3 rfl)
      rw [hq1, List.getElem?_map, hj1] <;> rfl
    · rw [hj3]
      show _ = [_, _, some (isD (.tuple (List.map eWant (_ ++ _)))), _, _]
      rw [List.map_append]
      rfl
  · rintro s h ⟨rfl, rfl⟩
    refine dss_ret (de_var 2 rfl) fun v B h => ⟨rfl, ?_⟩
    rw [List.length_zip, List.length_range, Nat.min_self, chosenAt_end oc] at h
    exact h
abbrev spLawWants : Sp := spWantsOf
theorem ok_law_wants (Y : Bi mg) (F : FnD K d__law_wants f fd) : FnOk P w K mg base CX0 1 f fd ["_law_sheet_here", "_law_choice"] spLawWants := by
  refine ok_ds F sc__law_wants _ _ _ _ (fun _ => rfl) fun y hy cdv A outer s H E hr => ?_
  obtain ⟨sheet, cs⟩ := y
  obtain ⟨ok, oc⟩ := hy
  refine dss_set (i := 2) (de_tup (ds := []) da_nil) ?_ sc__law_wants.nd
  refine dss_for (di_zip (xs := sheet) (ys := cs) (f := eWays) (g := fun i : Nat => .int (i : Int)) Y.zip (de_var 0 rfl) (de_var 1 rfl)) [3, 4] (fun q => [isD (eWays q.1), isI ((q.2 : Nat) : Int)]) (fun r _ => dg_tup2 rfl (fun A => dg_name 3 sc__law_wants.nd rfl (Or.inl rfl)) (fun A => dg_name 4 sc__law_wants.nd rfl (Or.inl rfl)))
    (fun i s h => s = [some (isD (eSheet sheet)), some (isD (eCh cs)), some (isD (eWants (chosenAt sheet cs i))), none, none] ∧ h = []) ⟨rfl, rfl⟩ ?_ ?_
  · rintro i q s h hq ⟨rfl, rfl⟩
    obtain ⟨hq1, hq2⟩ := List.getElem?_zip_eq_some.mp hq
    obtain ⟨j, hj1, hj2, hj3⟩ := chosenAt_succ oc hq1
    have ej : j = q.2 := by rw [hq2] at hj1; exact (Option.some.inj hj1).symm
    subst ej
    have hl := chosenAt_len (cs := cs) ok i
    have hl2 : (q.1.getD q.2 []).length ≤ 2 := wayAt_len ok (List.mem_of_getElem? hq1) (some q.2)
    refine dss_set (i := 2) (de_op op_catA (re_catT (es := (q.1.getD q.2 []).map eWant) ?_) (de_var 2 rfl) (de_ixT (d := eWants (q.1.getD q.2 [])) (atI_nat' (by rw [List.getElem?_map, getD_get hj2] <;> rfl)) (de_var 3 rfl) (de_var 4 rfl))) (dss_nil (wk_mask [true, true, true, false, false] _) ⟨?_, rfl⟩) sc__law_wants.nd
    · rw [List.length_map, List.length_map]
      exact Nat.le_trans (Nat.add_le_add hl hl2) (by decide)
    · rw [hj3]
      show _ = [_, _, some (isD (.tuple (List.map eWant (_ ++ _)))), _, _]
      rw [List.map_append]
      rfl
  · rintro s h ⟨rfl, rfl⟩
    refine dss_ret (de_var 2 rfl) fun v B h => ⟨rfl, ?_⟩
    rw [List.length_zip, oc.len, Nat.min_self, chosenAt_end oc] at h
    exact h
/-- how many are wanted at a place -/
def wantedD (ws : List Wt) (f : Str) : Option (List Str) → Int
  | none => ls (ws.filter fun w => decide (w.f = f)) (·.n)
  | some shs => ls ((ws.filter fun w => decide (w.f = f)).filter fun w => !w.sh.isEmpty && w.sh.all fun s => decide (s ∈ shs)) (·.n)
def encO : Option (List Str) → PyData
  | none => .none
  | some l => .tuple (l.map .str)
theorem encO_not (o : Option (List Str)) : notNone (encO o) = o.isSome := by cases o <;> rfl
structure OkWs (ws : List Wt) : Prop where
  len : ws.length ≤ 6
  w : ∀ w ∈ ws, OkW w
theorem inD_str {s : Str} {l : List Str} : inD (.str s) (l.map .str) = decide (s ∈ l) := by
  unfold inD
  rw [List.map_map]
  induction l with
  | nil => rfl
  | cons a l ih =>
    have : inV (toV (.str s)) ((a :: l).map (toV ∘ PyData.str)) = (eqV (.str a) (.str s) || inV (toV (.str s)) (l.map (toV ∘ PyData.str))) := rfl
    rw [this, ih, eqV_ss]
    by_cases h : a = s
    · subst h; simp
    · have h' : ¬ s = a := fun z => h z.symm
      simp [h, h']
theorem flat_strs {l : List Str} : (l.map PyData.str).all flatD = true := by simp [flatD, List.all_map]
abbrev spWanted : Sp := spP (γ := List Wt × Str × Option (List Str)) (fun y => [isD (eWants y.1), isS y.2.1, isD (encO y.2.2)]) (fun y => OkWs y.1) (fun y => isI (wantedD y.1 y.2.1 y.2.2))
theorem ok_wanted (Y : Bi mg) (F : FnD K d_wanted f fd) : FnOk P w K mg base CX0 1 f fd ["wants", "form", "shades"] spWanted := by
  refine ok_ds F sc_wanted _ _ _ _ (fun _ => rfl) fun y hy cdv A outer s H E hr => ?_
  obtain ⟨ws, fm, o⟩ := y
  have ok : OkWs ws := hy
  refine dss_lcD (i := 3) (xs := ws) [("want", 4)] [4] (fun c => [isD (eWant c)]) (fun w => decide (w.f = fm)) eWant sc_wanted.nd
      (di_tup (f := eWant) (de_var 0 rfl)) (by show blkC N_wanted (defScope s_wanted) _ _ = true; decide +kernel) (fun r _ s H C cl fp => dg_name 4 sc_wanted.nd rfl (Or.inl rfl)) (fun r _ s H C cl fp => dts_one (dt_cmp op_eq re_eqS (de_ixT ix0 (de_var 4 rfl) de_int) (de_var 1 rfl)))
      (fun r _ _ s H C cl fp => de_var 4 rfl) (Nat.le_trans ok.len (by decide)) (Nat.le_of_ble_eq_true rfl) ?_
  have fin : ∀ (xs : List Wt), xs.length ≤ 6 → wantedD ws fm o = ls xs (·.n) → DSs (cxOf CX0 P w K mg base N_wanted d_wanted.qual d_wanted.scope f cdv A outer s H E).nox (List.map (fun x => x.a) ([] : List Cell)) ((defBody s_wanted).drop 2) [some (isD (eWants ws)), some (isS fm), some (isD (encO o)), some (isD (.list (xs.map eWant))), none, none] []
      (fun x_1 hp' => ∀ (B : Hp), hp' = [] ∧ (isI (wantedD ws fm o)).p V.non B) fun v B hp' => hp' = [] ∧ (isI (wantedD ws fm o)).p v B := fun xs hl hx => by
    refine dss_ret (de_eq (de_callB (cr_sum rfl) (rc_sum (ns := xs.map (·.n))) Y.sum bt_sum (da_cons (de_eq (de_lcD (xs := xs) [("want", 4)] [4] (fun c => [isD (eWant c)]) (fun w => true) (fun w => .int w.n) sc_wanted.nd
      (di_list (f := eWant) (de_var 3 rfl)) (by show blkC N_wanted (defScope s_wanted) _ _ = true; decide +kernel) (fun r _ s H C cl fp => dg_name 4 sc_wanted.nd rfl (Or.inl rfl)) (fun r _ s H C cl fp => dts_nil)
      (fun r _ _ s H C cl fp => de_ixT ix2 (de_var 4 rfl) de_int) (Nat.le_trans hl (by decide))) ?_) da_nil)) ?_) fun v B h => ⟨rfl, h⟩
    · rw [List.filter_eq_self.mpr fun _ _ => rfl, List.map_map]; rfl
    · rw [hx]; rfl
  refine dss_when (M := fun s h => ∃ xs : List Wt, (xs.length ≤ 6 ∧ wantedD ws fm o = ls xs (·.n)) ∧ s = [some (isD (eWants ws)), some (isS fm), some (isD (encO o)), some (isD (.list (xs.map eWant))), none, none] ∧ h = []) (dt_eq (dt_cmp op_notN (re_notN (d := encO o)) (de_var 2 rfl) de_non) (encO_not o)) (fun hb => ?_) (fun hb => ?_) fun s h ⟨xs, ⟨h1, h2⟩, e1, e2⟩ => ?_
  · cases o with
    | none => cases hb
    | some shs =>
      have hle : (ws.filter fun w => decide (w.f = fm)).length ≤ 6 := Nat.le_trans (List.length_filter_le ..) ok.len
      refine dss_lcD (i := 3) (xs := ws.filter fun w => decide (w.f = fm)) [("want", 4)] [4] (fun c => [isD (eWant c)]) (fun w => !w.sh.isEmpty && w.sh.all fun s => decide (s ∈ shs)) eWant sc_wanted.nd
        (di_list (f := eWant) (de_var 3 rfl)) (by show blkC N_wanted (defScope s_wanted) _ _ = true; decide +kernel) (fun r _ s H C cl fp => dg_name 4 sc_wanted.nd rfl (Or.inl rfl)) (fun r hr2 s H C cl fp => dts_one (dt_w (dw_and (dt_eq (dt_cmp (op_neD (hu64 hr)) (re_neD (d := .tuple (r.sh.map .str)) (e := .tuple []) (shaped_strs fun s hs => ((ok.w r (List.mem_filter.mp hr2).1).sh.subset hs)) rfl) (de_ixT ix1 (de_var 4 rfl) de_int) (de_tup (ds := []) da_nil)) ?_) fun _ => dw_and1 ?_)))
        (fun r _ _ s H C cl fp => de_var 4 rfl) (Nat.le_trans hle (by decide)) (Nat.le_of_ble_eq_true rfl) (dss_nil (Wk.refl _) ⟨(ws.filter fun w => decide (w.f = fm)).filter fun w => !w.sh.isEmpty && w.sh.all fun s => decide (s ∈ shs), ⟨Nat.le_trans (List.length_filter_le ..) hle, rfl⟩, rfl, rfl⟩)
      · rw [eqv_nil]; simp
      · refine dt_val (de_eq (de_callB (cr_all rfl) (rc_all (bs := r.sh.map fun s => decide (s ∈ shs))) Y.all bt_all (da_cons (de_eq (de_lcD (xs := r.sh) [("shade", 5)] [5] (fun c => [isS c]) (fun _ => true) (fun c => .bool (decide (c ∈ shs))) sc_wanted.nd
          (di_tup (f := .str) (de_ixT ix1 (de_var 4 rfl) de_int)) (by kernel_rfl) (fun r _ s H C cl fp => dg_name 5 sc_wanted.nd rfl (Or.inl rfl)) (fun r _ s H C cl fp => dts_nil)
          (fun r _ _ s H C cl fp => de_eq (de_cmp op_in_seq (re_in (d := .str r) (ds := shs.map .str) (neg := false) rfl flat_strs) (de_var 5 rfl) (de_var 2 rfl)) (by rw [if_neg (by decide), inD_str])) ?_) ?_) da_nil)) ?_)
        · exact Nat.le_trans (ok.w r (List.mem_filter.mp hr2).1).len (by decide)
        · rw [List.filter_eq_self.mpr fun _ _ => rfl, List.map_map]; rfl
        · rw [List.all_map]; rfl
  · cases o with
    | none => exact ⟨ws.filter fun w => decide (w.f = fm), ⟨Nat.le_trans (List.length_filter_le ..) ok.len, rfl⟩, rfl, rfl⟩
    | some shs => cases hb
  · subst e1 e2
    exact fin xs h1 h2
end
end PK
end
section
set_option Elab.async false
set_option linter.all false
set_option maxRecDepth 100000
set_option maxHeartbeats 2000000
namespace PK
open PySem PySem.Spec PyProof.Rows L2
open PM (Want manyP manyF ls letsL)

def thereD (rows : Rws) (f : Str) : Option (List Str) → Int
  | none => manyF rows f
  | some shs => ls shs fun s => manyP rows f s
def ltS (a b : Str) : Prop := a.cps.toList < b.cps.toList
structure OkO (o : Option (List Str)) : Prop where
  ne : ∀ l, o = some l → l ≠ []
  sh : ∀ l, o = some l → ∀ s ∈ l, s ∈ shadesL
  up : ∀ l, o = some l → l.Pairwise ltS
  len : ∀ l, o = some l → l.length ≤ 100
structure IsBar (rows : Rws) (ws : List Wt) (f : Str) (o : Option (List Str)) : Prop where
  fm : f ∈ formsL
  oo : OkO o
  lt : thereD rows f o < wantedD ws f o
theorem shade_word {s : Str} (h : s ∈ shadesL) : s ∈ wordsL := List.mem_append_right _ h
theorem form_word {s : Str} (h : s ∈ formsL) : s ∈ wordsL := List.mem_append_left _ h
theorem cutD_map {α : Type} (g : α → PyData) (xs : List α) (lo hi : Option Int) : ∃ a b, cutD (xs.map g) lo hi = ((xs.drop a).take b).map g := by
  unfold cutD
  exact ⟨_, _, by rw [List.map_take, List.map_drop]⟩
theorem cutD_tail {ds : List PyData} : cutD ds (some 1) none = ds.drop 1 := by
  unfold cutD
  have e1 : HT.sIx ds.length 0 (some 1) = min 1 ds.length := HT.sIx_nat ds.length 0 1
  rw [e1, HT.sIx_none]
  cases ds with
  | nil => rfl
  | cons a l =>
    have : min 1 (a :: l).length = 1 := by rw [List.length_cons]; omega
    rw [this]
    exact List.take_of_length_le (by simp)
theorem zip_tail_up {α : Type} {R : α → α → Prop} : ∀ {y : List α}, y.Pairwise R → ∀ q ∈ y.zip (y.drop 1), R q.1 q.2
  | [], _, q, h => by cases h
  | [a], _, q, h => by cases h
  | a :: b :: l, hp, q, h => by
    rw [List.pairwise_cons] at hp
    have h' : q ∈ (a, b) :: (b :: l).zip ((b :: l).drop 1) := h
    rcases List.mem_cons.mp h' with rfl | h'
    · exact hp.1 b (List.mem_cons_self ..)
    · exact zip_tail_up hp.2 q h'
section
variable {P : Program} {w : World} {K : PySem.W.Frag} {mg : Str → Option Value} {base : Heap} {f : Addr} {fd : FuncData}
abbrev spThere (K : PySem.W.Frag) : Sp := spP (γ := Rws × Str × Option (List Str)) (fun y => [isHeap (HC K) y.1, isS y.2.1, isD (encO y.2.2)]) (fun y => y.1.length ≤ 1000 ∧ ∀ l, y.2.2 = some l → l.length ≤ 100) (fun y => isI (thereD y.1 y.2.1 y.2.2))
theorem ok_there (Y : Bi mg) (c1 : C8.Met P w K mg base 1 (HC K) "many" (spMany K) []) (c2 : C8.Met P w K mg base 1 (HC K) "many" (spMany K) [.non]) (F : FnD K d_there f fd) : FnOk P w K mg base CX0 2 f fd ["heap", "form", "shades"] (spThere K) := by
  refine ok_ds F sc_there _ _ _ _ (fun _ => rfl) fun y hy cdv A outer s H E hr => ?_
  obtain ⟨rows, fm, o⟩ := y
  obtain ⟨hz, hl⟩ := hy
  refine dss_ret (A := isI (thereD rows fm o)) (de_if (t := !notNone (encO o)) (hp1 := []) (dt_cmp op_isN re_isN (de_var 2 rfl) de_non) (fun hb => ?_) (fun hb => ?_)) fun v B h => ⟨rfl, h⟩
  · cases o with
    | some l => cases hb
    | none => exact de_meth c2 hr (by omega) (rows, fm, none) hz (de_var 0 rfl) (heap_no (by decide)) (da_cons (de_var 1 rfl) da_nil) (fun B v vs h1 h2 => by
        obtain ⟨u, rfl, hu⟩ := all2_one h2
        exact .cons h1 (.cons hu (.cons .non .nil)))
  · cases o with
    | none => cases hb
    | some l =>
      refine de_eq (de_callB (cr_sum rfl) (rc_sum (ns := l.map fun s => manyP rows fm s)) Y.sum bt_sum (da_cons (de_eq (de_lcD (xs := l) [("shade", 3)] [3] (fun c => [isS c]) (fun w => true) (fun s => .int (manyP rows fm s)) sc_there.nd
        (di_tup (f := .str) (de_var 2 rfl)) (by show blkC N_there (defScope s_there) _ _ = true; decide +kernel) (fun r _ s H C cl fp => dg_name 3 sc_there.nd rfl (Or.inl rfl)) (fun r _ s H C cl fp => dts_nil)
        (fun r _ _ s H C cl fp => ?_) (Nat.le_trans (hl l rfl) (by decide))) ?_) da_nil)) ?_
      · refine de_many2 c1 (j := 1) ?_ (Nat.le_refl _) hz (de_var 0 rfl) (de_var 1 rfl) (de_var 3 rfl)
        exact hr
      · rw [List.filter_eq_self.mpr fun _ _ => rfl, List.map_map]; rfl
      · rfl
abbrev spRising : Sp := spP (γ := List Str) (fun y => [isD (.tuple (y.map .str))]) (fun y => (∀ s ∈ y, s ∈ shadesL) ∧ y.Pairwise ltS ∧ y.length ≤ 100) (fun y => isB true)
theorem ok_is_rising (Y : Bi mg) (c : C8.Cal P w K mg base 1 "is_word" spWord []) (F : FnD K d_is_rising f fd) : FnOk P w K mg base CX0 2 f fd ["some"] spRising := by
  refine ok_ds F sc_is_rising _ _ _ _ (fun _ => rfl) fun y hy cdv A outer s H E hr => ?_
  obtain ⟨h1, h2, h3⟩ := hy
  have hz : y.length ≤ sizeLine := Nat.le_trans h3 (by decide)
  refine dss_ifr (b := !true) (dt_not (dt_val (de_eq (de_callB (cr_all rfl) (rc_all (bs := y.map fun _ => true)) Y.all bt_all (da_cons (de_eq (de_lcD (xs := y) [("one", 1)] [1] (fun c => [isS c]) (fun _ => true) (fun c => .bool true) sc_is_rising.nd
    (di_tup (f := .str) (de_var 0 rfl)) (by show blkC N_is_rising (defScope s_is_rising) _ _ = true; decide +kernel) (fun r _ s H C cl fp => dg_name 1 sc_is_rising.nd rfl (Or.inl rfl)) (fun r _ s H C cl fp => dts_nil)
    (fun r hr2 _ s H C cl fp => ?_) hz) ?_) da_nil)) ?_))) (fun h => by cases h) fun _ => ?_
  · exact de_callP c (j := 1) hr (Nat.le_refl _) r (shade_word (h1 r hr2)) (da_cons (de_var 1 rfl) da_nil)
  · rw [List.filter_eq_self.mpr fun _ _ => rfl, List.map_map]; rfl
  · rw [map_true]
  · refine dss_ret (A := isB true) (de_eq (de_callB (cr_all rfl) (rc_all (bs := (y.zip (y.drop 1)).map fun _ => true)) Y.all bt_all (da_cons (de_eq (de_lcD (xs := y.zip (y.drop 1)) [("one", 1), ("other", 2)] [1, 2] (fun c => [isS c.1, isS c.2]) (fun _ => true) (fun c => .bool true) sc_is_rising.nd
      (di_zip (f := .str) (g := .str) Y.zip (de_var 0 rfl) (de_eq (de_sliceT (de_var 0 rfl) (do_some de_int) do_none) ?_)) (by show blkC N_is_rising (defScope s_is_rising) _ _ = true; decide +kernel) (fun r _ s H C cl fp => dg_tup2 rfl (fun A => dg_name 1 sc_is_rising.nd rfl (Or.inl rfl)) (fun A => dg_name 2 sc_is_rising.nd rfl (Or.inl rfl))) (fun r _ s H C cl fp => dts_nil)
      (fun r hr2 _ s H C cl fp => ?_) ?_) ?_) da_nil)) ?_) fun v B h => ⟨rfl, h⟩
    · rw [cutD_tail, List.map_drop]
    · refine de_eq (de_cmp op_lt_str re_ltS (de_var 1 rfl) (de_var 2 rfl)) ?_
      exact congrArg PyData.bool (decide_eq_true (zip_tail_up h2 r hr2))
    · rw [List.length_zip]; omega
    · rw [List.filter_eq_self.mpr fun _ _ => rfl, List.map_map]; rfl
    · rw [map_true]
abbrev eBarT (f : Str) (o : Option (List Str)) : PyData := .tuple [.str f, encO o]
abbrev spShaped : Sp := spP (γ := Str × Option (List Str)) (fun y => [isD (eBarT y.1 y.2)]) (fun y => y.1 ∈ formsL ∧ OkO y.2) (fun y => isB true)
theorem ok_is_shaped (Y : Bi mg) (c : C8.Cal P w K mg base 1 "is_word" spWord []) (F : FnD K d_is_shaped f fd) : FnOk P w K mg base CX0 2 f fd ["thing"] spShaped := by
  refine ok_ds F sc_is_shaped _ _ _ _ (fun _ => rfl) fun y hy cdv A outer s H E hr => ?_
  obtain ⟨fm, o⟩ := y
  obtain ⟨h1, h2⟩ := hy
  refine dss_ifr (b := false || (false || false)) (dt_w (dw_or (dt_not (t := true) (dt_val ?_)) fun _ => dw_or (dt_cmp op_ne (re_neI (i := 2) (j := 2)) ?_ de_int) fun _ => dw_or1 (dt_not (t := true) (dt_val ?_)))) (fun h => by cases h) fun _ => ?_
  · exact de_callB call_isi (rc_isi (d := eBarT fm o) kit_tt) Y.isinstance bt_isinstance (da_cons (de_var 0 rfl) (da_cons (de_bi Y.tuple bt_tuple) da_nil))
  · exact de_callB call_len_seq (rc_lenT (ds := [.str fm, encO o])) Y.len bt_len (da_cons (de_var 0 rfl) da_nil)
  · exact de_callP c (j := 1) hr (Nat.le_refl _) fm (form_word h1) (da_cons (de_ixT ix0 (de_var 0 rfl) de_int) da_nil)
  · refine dss_ret (A := isB true) (de_eq (d := .bool (!notNone (encO o) || (o.isSome && true))) (de_or0 (de_cmp op_isN re_isN (de_ixT ix1 (de_var 0 rfl) de_int) de_non) fun hb => de_one ?_) ?_) fun v B h => ⟨rfl, h⟩
    · cases o with
      | none => cases hb
      | some l =>
        refine de_and0 (t := true) (u := true) ?_ fun _ => de_one (de_eq (de_cmp op_gt re_B0 (de_callB call_len_seq (rc_lenT (ds := l.map .str)) Y.len bt_len (da_cons (de_ixT ix1 (de_var 0 rfl) de_int) da_nil)) de_int) ?_)
        · exact de_callB call_isi (rc_isi (d := .tuple (l.map .str)) kit_tt) Y.isinstance bt_isinstance (da_cons (de_ixT ix1 (de_var 0 rfl) de_int) (da_cons (de_bi Y.tuple bt_tuple) da_nil))
        · have := h2.ne l rfl
          cases l with
          | nil => exact absurd rfl this
          | cons a l => simp
    · cases o <;> rfl
abbrev spIsBar (K : PySem.W.Frag) : Sp := spP (γ := Rws × List Wt × Str × Option (List Str)) (fun y => [isHeap (HC K) y.1, isD (eWants y.2.1), isD (eBarT y.2.2.1 y.2.2.2)]) (fun y => y.1.length ≤ 1000 ∧ OkWs y.2.1 ∧ IsBar y.1 y.2.1 y.2.2.1 y.2.2.2) (fun y => isB true)
theorem ok_is_bar (Y : Bi mg) (c1 : C8.Cal P w K mg base 2 "is_shaped" spShaped []) (c2 : C8.Cal P w K mg base 2 "is_rising" spRising []) (c3 : C8.Cal P w K mg base 1 "wanted" spWanted []) (c4 : C8.Cal P w K mg base 2 "there" (spThere K) []) (F : FnD K d_is_bar f fd) : FnOk P w K mg base CX0 3 f fd ["heap", "wants", "thing"] (spIsBar K) := by
  refine ok_ds F sc_is_bar _ _ _ _ (fun _ => rfl) fun y hy cdv A outer s H E hr => ?_
  obtain ⟨rows, ws, fm, o⟩ := y
  obtain ⟨hz, hw, hb⟩ := hy
  refine dss_ifr (b := false || false) (dt_w (dw_or (dt_not (t := true) (dt_val ?_)) fun _ => dw_or1 (dt_eq (dt_w (dw_and (t := o.isSome) (u := false) (dt_eq (dt_cmp op_notN (re_notN (d := encO o)) (de_ixT ix1 (de_var 2 rfl) de_int) de_non) (encO_not o)) fun ho => dw_and1 (dt_not (t := true) (dt_val ?_)))) (by rw [Bool.and_false])))) (fun h => by cases h) fun _ => ?_
  · exact de_callP c1 (j := 2) hr (Nat.le_refl _) (fm, o) ⟨hb.fm, hb.oo⟩ (da_cons (de_var 2 rfl) da_nil)
  · cases o with
    | none => cases ho
    | some l => exact de_callP c2 (j := 2) hr (Nat.le_refl _) l ⟨hb.oo.sh l rfl, hb.oo.up l rfl, hb.oo.len l rfl⟩ (da_cons (de_ixT ix1 (de_var 2 rfl) de_int) da_nil)
  · refine dss_ret (A := isB true) (de_eq (d := .bool (decide (thereD rows fm o < wantedD ws fm o))) (de_cmp op_gt re_B0 (hp1 := []) ?_ ?_) (by rw [decide_eq_true hb.lt])) fun v B h => ⟨rfl, h⟩
    · exact de_callP c3 (j := 2) hr (by omega) (ws, fm, o) hw (da_cons (de_var 1 rfl) (da_cons (de_ixT ix0 (de_var 2 rfl) de_int) (da_cons (de_ixT ix1 (de_var 2 rfl) de_int) da_nil)))
    · exact de_callP c4 (j := 2) hr (by omega) (rows, fm, o) ⟨hz, hb.oo.len⟩ (da_cons (de_var 0 rfl) (da_cons (de_ixT ix0 (de_var 2 rfl) de_int) (da_cons (de_ixT ix1 (de_var 2 rfl) de_int) da_nil)))
abbrev spLetsBar (K : PySem.W.Frag) : Sp := spP (γ := Rws × List Wt × Str × Option (List Str)) (fun y => [isHeap (HC K) y.1, isD (eWants y.2.1), isD (eBarT y.2.2.1 y.2.2.2)]) (fun y => y.1.length ≤ 1000 ∧ OkWs y.2.1 ∧ IsBar y.1 y.2.1 y.2.2.1 y.2.2.2) (fun y => isB true)
theorem ok_lets_bar (Y : Bi mg) (c1 : C8.Cal P w K mg base 2 "is_shaped" spShaped []) (c2 : C8.Cal P w K mg base 2 "is_rising" spRising []) (c3 : C8.Cal P w K mg base 3 "is_bar" (spIsBar K) []) (c4 : C8.Cal P w K mg base 1 "need" spNeed []) (F : FnD K d_lets_bar f fd) : FnOk P w K mg base CX0 4 f fd ["heap", "wants", "thing"] (spLetsBar K) := by
  refine ok_ds F sc_lets_bar _ _ _ _ (fun _ => rfl) fun y hy cdv A outer s H E hr => ?_
  obtain ⟨rows, ws, fm, o⟩ := y
  obtain ⟨hz, hw, hb⟩ := hy
  refine dss_expr (A := isD .none) (hp1 := []) ?_ ?_
  · exact de_callP c4 (j := 3) hr (by omega) ("shape", -1) trivial (da_cons (de_callP c1 (j := 3) hr (by omega) (fm, o) ⟨hb.fm, hb.oo⟩ (da_cons (de_var 2 rfl) da_nil)) (da_cons de_str (da_cons (de_neg de_int) da_nil)))
  refine dss_when (M := fun s h => s = [some (isHeap (HC K) rows), some (isD (eWants ws)), some (isD (eBarT fm o)), none, none] ∧ h = []) (dt_eq (dt_cmp op_notN (re_notN (d := encO o)) (de_ixT ix1 (de_var 2 rfl) de_int) de_non) (encO_not o)) (fun ho => ?_) (fun _ => ⟨rfl, rfl⟩) fun s h ⟨e1, e2⟩ => ?_
  · cases o with
    | none => cases ho
    | some l =>
      refine dss_for (di_enum (xs := l) (f := .str) Y.enumerate (de_ixT ix1 (de_var 2 rfl) de_int)) [3, 4] (fun q => [isI ((q.2 : Nat) : Int), isS q.1]) (fun r _ => dg_tup2 rfl (fun A => dg_name 3 sc_lets_bar.nd rfl (Or.inl rfl)) (fun A => dg_name 4 sc_lets_bar.nd rfl (Or.inl rfl)))
        (fun i s h => s = [some (isHeap (HC K) rows), some (isD (eWants ws)), some (isD (eBarT fm (some l))), none, none] ∧ h = []) ⟨rfl, rfl⟩ ?_ (fun s h ⟨e1, e2⟩ => dss_nil (Wk.refl _) ⟨e1, e2⟩)
      rintro i q s h hq ⟨rfl, rfl⟩
      obtain ⟨x, y, hxy⟩ := cutD_map .str l (some (if ((q.2 : Nat) : Int) - 1 > 0 then ((q.2 : Nat) : Int) - 1 else 0)) (some (((q.2 : Nat) : Int) + 1))
      have sub : ((l.drop x).take y).Sublist l := (List.take_sublist ..).trans (List.drop_sublist ..)
      refine dss_expr (A := isD .none) (hp1 := []) ?_ (dss_nil (wk_mask [true, true, true, false, false] _) ⟨rfl, rfl⟩)
      refine de_callP c4 (j := 3) hr (by omega) ("shade", ((q.2 : Nat) : Int)) trivial (da_cons (hp1 := []) ?_ (da_cons de_str (da_cons (de_var 3 rfl) da_nil)))
      refine de_callP c2 (j := 3) hr (by omega) ((l.drop x).take y) ⟨fun s hs => hb.oo.sh l rfl s (sub.subset hs), (hb.oo.up l rfl).sublist sub, Nat.le_trans sub.length_le (hb.oo.len l rfl)⟩ (da_cons (de_eq (de_sliceT (de_ixT ix1 (de_var 2 rfl) de_int) (do_some ?_) (do_some (de_op op_add re_I0 (de_var 3 rfl) de_int))) (by rw [hxy])) da_nil)
      exact de_callB (call_max2 rfl) (rc_II (f := fun i j => if j > i then j else i)) Y.max bt_max (da_cons de_int (da_cons (de_op op_sub re_I0 (de_var 3 rfl) de_int) da_nil))
  · subst e1 e2
    refine dss_expr (A := isD .none) (hp1 := []) ?_ (dss_ret de_bl fun v B h => ⟨rfl, h⟩)
    exact de_callP c4 (j := 3) hr (by omega) ("more", -1) trivial (da_cons (de_callP c3 (j := 3) hr (by omega) (rows, ws, fm, o) ⟨hz, hw, hb⟩ (da_cons (de_var 0 rfl) (da_cons (de_var 1 rfl) (da_cons (de_var 2 rfl) da_nil)))) (da_cons de_str (da_cons (de_neg de_int) da_nil)))
end
end PK
end
section
set_option Elab.async false
set_option linter.all false
set_option maxRecDepth 100000
set_option maxHeartbeats 2000000
namespace PK
open PySem PySem.Spec PyProof.Rows L2
open PM (Want manyP manyF ls letsL)

abbrev Gf := List (Str × Int)
def ePair (p : Str × Int) : PyData := .tuple [.str p.1, .int p.2]
def eGift (g : Gf) : PyData := .tuple (g.map ePair)
def eGiven (gs : List Gf) : PyData := .tuple (gs.map eGift)
structure OkG (n : Int) (g : Gf) : Prop where
  len : g.length ≤ 100
  sh : ∀ p ∈ g, p.1 ∈ shadesL
  pos : ∀ p ∈ g, 0 < p.2
  up : g.Pairwise fun p q => ltS p.1 q.1
  sum : (g.map (·.2)).sum = n
def OkRt (w : Wt) (g : Gf) : Prop := w.sh ≠ [] → ∀ p ∈ g, p.1 ∈ w.sh
structure OkGv (ws : List Wt) (gs : List Gf) : Prop where
  len : gs.length = ws.length
  g : ∀ q ∈ ws.zip gs, OkG q.1.n q.2
  r : ∀ q ∈ ws.zip gs, OkRt q.1 q.2
theorem dss_try {X : Cx} {own0 : List Addr} {body rest : List Stmt} {sl : SL} {hp : List Cell} {Nx : NxP} {Rt : RtP} {h₀ : ExceptHandler} {hs : List ExceptHandler} {pos : Pos} (h : DSs X.nox own0 body sl hp (fun _ _ => False) Rt) : DSs X own0 (.Try body (h₀ :: hs) [] [] pos :: rest) sl hp Nx Rt :=
  pss_imp (pss_cons (ps_try_thru0 h) pss_never) fun D σ H ⟨Z, B, z, S, T, k, r⟩ => ⟨Z, B, z, S, T, fun _ _ _ _ _ _ n => n.elim, r⟩
section
variable {P : Program} {w : World} {K : PySem.W.Frag} {mg : Str → Option Value} {base : Heap} {f : Addr} {fd : FuncData}
abbrev eNode (f : Str) (o : Option (List Str)) : PyData := .tuple [.str "bar", .str f, encO o]
abbrev spBarred (K : PySem.W.Frag) : Sp := spP (γ := Rws × List Wt × Str × Option (List Str)) (fun y => [isHeap (HC K) y.1, isD (eWants y.2.1), isD (eNode y.2.2.1 y.2.2.2)]) (fun y => y.1.length ≤ 1000 ∧ OkWs y.2.1 ∧ IsBar y.1 y.2.1 y.2.2.1 y.2.2.2) (fun y => isB true)
theorem ok_is_barred (c : C8.Cal P w K mg base 4 "lets_bar" (spLetsBar K) []) (F : FnD K d_is_barred f fd) : FnOk P w K mg base CX0 5 f fd ["heap", "wants", "thing"] (spBarred K) := by
  refine ok_ds F sc_is_barred _ _ _ _ (fun _ => rfl) fun y hy cdv A outer s H E hr => ?_
  obtain ⟨rows, ws, fm, o⟩ := y
  refine dss_try (dss_ret (A := isB true) (hp1 := []) ?_ fun v B h => ⟨rfl, h⟩)
  exact de_callP c (j := 4) hr (Nat.le_refl _) (rows, ws, fm, o) hy (da_cons (de_var 0 rfl) (da_cons (de_var 1 rfl) (da_cons (de_tup (ds := [.str fm, encO o]) (da_cons (de_ixT ix1 (de_var 2 rfl) de_int) (da_cons (de_ixT ix2 (de_var 2 rfl) de_int) da_nil))) da_nil)))
abbrev spRight : Sp := spP (γ := Wt × Gf) (fun y => [isD (eWant y.1), isD (eGift y.2)]) (fun y => OkW y.1 ∧ OkRt y.1 y.2 ∧ y.2.length ≤ 100) (fun y => isB true)
theorem ok_is_right (Y : Bi mg) (F : FnD K d_is_right f fd) : FnOk P w K mg base CX0 1 f fd ["want", "gift"] spRight := by
  refine ok_ds F sc_is_right _ _ _ _ (fun _ => rfl) fun y hy cdv A outer s H E hr => ?_
  obtain ⟨wt, g⟩ := y
  obtain ⟨h1, h2, h3⟩ := hy
  refine dss_ret (A := isB true) (de_eq (d := .bool (wt.sh.isEmpty || true)) (de_or0 (de_eq (de_cmp (op_eqD (hu64 hr)) (re_eqD (d := .tuple (wt.sh.map .str)) (e := .tuple []) (shaped_strs fun s hs => h1.sh.subset hs) rfl) (de_ixT ix1 (de_var 0 rfl) de_int) (de_tup (ds := []) da_nil)) ?_) fun he => de_one
    (de_eq (de_callB (cr_all rfl) (rc_all (bs := g.map fun _ => true)) Y.all bt_all (da_cons (de_eq (de_lcD (xs := g) [("shade", 2), ("many", 3)] [2, 3] (fun c => [isS c.1, isI c.2]) (fun _ => true) (fun c => .bool true) sc_is_right.nd
    (di_tup (f := ePair) (de_var 1 rfl)) (by show blkC N_is_right (defScope s_is_right) _ _ = true; decide +kernel) (fun r _ s H C cl fp => dg_tup2 rfl (fun A => dg_name 2 sc_is_right.nd rfl (Or.inl rfl)) (fun A => dg_name 3 sc_is_right.nd rfl (Or.inl rfl))) (fun r _ s H C cl fp => dts_nil)
    (fun r hr2 _ s H C cl fp => ?_) (Nat.le_trans h3 (by decide))) ?_) da_nil)) ?_)) (by rw [Bool.or_true])) fun v B h => ⟨rfl, h⟩
  · rw [eqv_nil]; simp
  · refine de_eq (de_cmp op_in_seq (re_in (d := .str r.1) (ds := wt.sh.map .str) (neg := false) rfl flat_strs) (de_var 2 rfl) (de_ixT ix1 (de_var 0 rfl) de_int)) ?_
    rw [if_neg (by decide), inD_str]
    exact congrArg PyData.bool (decide_eq_true (h2 (by intro z; rw [z] at he; cases he) r hr2))
  · rw [List.filter_eq_self.mpr fun _ _ => rfl, List.map_map]; rfl
  · rw [map_true]
abbrev spGift : Sp := spP (γ := Int × Gf) (fun y => [isI y.1, isD (eGift y.2)]) (fun y => OkG y.1 y.2) (fun y => isB true)
theorem ok_is_gift (Y : Bi mg) (c1 : C8.Cal P w K mg base 1 "is_word" spWord []) (c2 : C8.Cal P w K mg base 1 "is_number" spNumber []) (F : FnD K d_is_gift f fd) : FnOk P w K mg base CX0 2 f fd ["many", "thing"] spGift := by
  refine ok_ds F sc_is_gift _ _ _ _ (fun _ => rfl) fun y hy cdv A outer s H E hr => ?_
  obtain ⟨n, g⟩ := y
  have ok : OkG n g := hy
  have hz : g.length ≤ sizeLine := Nat.le_trans ok.len (by decide)
  refine dss_ifr (b := false || false) (dt_w (dw_or (dt_not (t := true) (dt_val ?_)) fun _ => dw_or1 (dt_not (t := true) (dt_val (de_eq (de_callB (cr_all rfl) (rc_all (bs := g.map fun _ => true)) Y.all bt_all (da_cons (de_eq (de_lcD (xs := g) [("one", 2)] [2] (fun c => [isD (ePair c)]) (fun _ => true) (fun c => .bool (true && true)) sc_is_gift.nd
    (di_tup (f := ePair) (de_var 1 rfl)) (by show blkC N_is_gift (defScope s_is_gift) _ _ = true; decide +kernel) (fun r _ s H C cl fp => dg_name 2 sc_is_gift.nd rfl (Or.inl rfl)) (fun r _ s H C cl fp => dts_nil)
    (fun r hr2 _ s H C cl fp => ?_) hz) ?_) da_nil)) ?_))))) (fun h => by cases h) fun _ => ?_
  · exact de_callB call_isi (rc_isi (d := eGift g) kit_tt) Y.isinstance bt_isinstance (da_cons (de_var 1 rfl) (da_cons (de_bi Y.tuple bt_tuple) da_nil))
  · refine de_and0 ?_ fun _ => de_one (de_eq (de_cmp op_eq re_eqI (de_callB call_len_seq (rc_lenT (ds := [.str r.1, .int r.2])) Y.len bt_len (da_cons (de_var 2 rfl) da_nil)) de_int) rfl)
    exact de_callB call_isi (rc_isi (d := ePair r) kit_tt) Y.isinstance bt_isinstance (da_cons (de_var 2 rfl) (da_cons (de_bi Y.tuple bt_tuple) da_nil))
  · rw [List.filter_eq_self.mpr fun _ _ => rfl, List.map_map]; rfl
  · rw [map_true]
  refine dss_ifr (b := !true) (dt_not (dt_val (de_eq (de_callB (cr_all rfl) (rc_all (bs := g.map fun _ => true)) Y.all bt_all (da_cons (de_eq (de_lcD (xs := g) [("one", 2)] [2] (fun c => [isD (ePair c)]) (fun _ => true) (fun c => .bool (true && (true && true))) sc_is_gift.nd
    (di_tup (f := ePair) (de_var 1 rfl)) (by show blkC N_is_gift (defScope s_is_gift) _ _ = true; decide +kernel) (fun r _ s H C cl fp => dg_name 2 sc_is_gift.nd rfl (Or.inl rfl)) (fun r _ s H C cl fp => dts_nil)
    (fun r hr2 _ s H C cl fp => ?_) hz) ?_) da_nil)) ?_))) (fun h => by cases h) fun _ => ?_
  · refine de_and0 ?_ fun _ => de_and0 ?_ fun _ => de_one (de_eq (de_cmp op_gt re_B0 (de_ixT ix1 (de_var 2 rfl) de_int) de_int) ?_)
    · exact de_callP c1 (j := 1) hr (Nat.le_refl _) r.1 (shade_word (ok.sh r hr2)) (da_cons (de_ixT ix0 (de_var 2 rfl) de_int) da_nil)
    · exact de_callP c2 (j := 1) hr (Nat.le_refl _) r.2 trivial (da_cons (de_ixT ix1 (de_var 2 rfl) de_int) da_nil)
    · exact congrArg PyData.bool (decide_eq_true (ok.pos r hr2))
  · rw [List.filter_eq_self.mpr fun _ _ => rfl, List.map_map]; rfl
  · rw [map_true]
  refine dss_ifr (b := !true) (dt_not (dt_val (de_eq (de_callB (cr_all rfl) (rc_all (bs := (g.zip (g.drop 1)).map fun _ => true)) Y.all bt_all (da_cons (de_eq (de_lcD (xs := g.zip (g.drop 1)) [("one", 2), ("other", 3)] [2, 3] (fun c => [isD (ePair c.1), isD (ePair c.2)]) (fun _ => true) (fun c => .bool true) sc_is_gift.nd
    (di_zip (f := ePair) (g := ePair) Y.zip (de_var 1 rfl) (de_eq (de_sliceT (de_var 1 rfl) (do_some de_int) do_none) ?_)) (by show blkC N_is_gift (defScope s_is_gift) _ _ = true; decide +kernel) (fun r _ s H C cl fp => dg_tup2 rfl (fun A => dg_name 2 sc_is_gift.nd rfl (Or.inl rfl)) (fun A => dg_name 3 sc_is_gift.nd rfl (Or.inl rfl))) (fun r _ s H C cl fp => dts_nil)
    (fun r hr2 _ s H C cl fp => ?_) ?_) ?_) da_nil)) ?_))) (fun h => by cases h) fun _ => ?_
  · rw [cutD_tail, List.map_drop]
  · refine de_eq (de_cmp op_lt_str re_ltS (de_ixT ix0 (de_var 2 rfl) de_int) (de_ixT ix0 (de_var 3 rfl) de_int)) ?_
    exact congrArg PyData.bool (decide_eq_true (zip_tail_up ok.up r hr2))
  · have := ok.len
    rw [List.length_zip]; omega
  · rw [List.filter_eq_self.mpr fun _ _ => rfl, List.map_map]; rfl
  · rw [map_true]
  · refine dss_ret (A := isB true) (de_eq (de_cmp op_eq (re_eqI (i := n) (j := n)) (de_eq (de_callB (cr_sum rfl) (rc_sum (ns := g.map (·.2))) Y.sum bt_sum (da_cons (de_eq (de_lcD (xs := g) [("one", 2)] [2] (fun c => [isD (ePair c)]) (fun _ => true) (fun c => .int c.2) sc_is_gift.nd
      (di_tup (f := ePair) (de_var 1 rfl)) (by show blkC N_is_gift (defScope s_is_gift) _ _ = true; decide +kernel) (fun r _ s H C cl fp => dg_name 2 sc_is_gift.nd rfl (Or.inl rfl)) (fun r _ s H C cl fp => dts_nil)
      (fun r hr2 _ s H C cl fp => de_ixT ix1 (de_var 2 rfl) de_int) hz) ?_) da_nil)) ?_) (de_var 0 rfl)) (by rw [decide_eq_true rfl])) fun v B h => ⟨rfl, h⟩
    · rw [List.filter_eq_self.mpr fun _ _ => rfl, List.map_map]; rfl
    · rw [ok.sum]
abbrev spAreGifts : Sp := spP (γ := List Wt × List Gf) (fun y => [isD (eWants y.1), isD (eGiven y.2)]) (fun y => OkWs y.1 ∧ OkGv y.1 y.2) (fun y => isB true)
theorem ok_are_gifts (Y : Bi mg) (c : C8.Cal P w K mg base 2 "is_gift" spGift []) (F : FnD K d_are_gifts f fd) : FnOk P w K mg base CX0 3 f fd ["wants", "thing"] spAreGifts := by
  refine ok_ds F sc_are_gifts _ _ _ _ (fun _ => rfl) fun y hy cdv A outer s H E hr => ?_
  obtain ⟨ws, gs⟩ := y
  obtain ⟨hw, ok⟩ := hy
  refine dss_ifr (b := false || false) (dt_w (dw_or (dt_not (t := true) (dt_val ?_)) fun _ => dw_or1 (dt_eq (dt_cmp op_ne re_neI (de_callB call_len_seq (rc_lenT (ds := gs.map eGift)) Y.len bt_len (da_cons (de_var 1 rfl) da_nil)) (de_callB call_len_seq (rc_lenT (ds := ws.map eWant)) Y.len bt_len (da_cons (de_var 0 rfl) da_nil))) ?_))) (fun h => by cases h) fun _ => ?_
  · exact de_callB call_isi (rc_isi (d := eGiven gs) kit_tt) Y.isinstance bt_isinstance (da_cons (de_var 1 rfl) (da_cons (de_bi Y.tuple bt_tuple) da_nil))
  · rw [List.length_map, List.length_map, ok.len]; simp
  · refine dss_ret (A := isB true) (de_eq (de_callB (cr_all rfl) (rc_all (bs := (ws.zip gs).map fun _ => true)) Y.all bt_all (da_cons (de_eq (de_lcD (xs := ws.zip gs) [("want", 2), ("one", 3)] [2, 3] (fun c => [isD (eWant c.1), isD (eGift c.2)]) (fun _ => true) (fun c => .bool true) sc_are_gifts.nd
      (di_zip (f := eWant) (g := eGift) Y.zip (de_var 0 rfl) (de_var 1 rfl)) (by show blkC N_are_gifts (defScope s_are_gifts) _ _ = true; decide +kernel) (fun r _ s H C cl fp => dg_tup2 rfl (fun A => dg_name 2 sc_are_gifts.nd rfl (Or.inl rfl)) (fun A => dg_name 3 sc_are_gifts.nd rfl (Or.inl rfl))) (fun r _ s H C cl fp => dts_nil)
      (fun r hr2 _ s H C cl fp => ?_) ?_) ?_) da_nil)) ?_) fun v B h => ⟨rfl, h⟩
    · exact de_callP c (j := 2) hr (Nat.le_refl _) (r.1.n, r.2) (ok.g r hr2) (da_cons (de_ixT ix2 (de_var 2 rfl) de_int) (da_cons (de_var 3 rfl) da_nil))
    · have := hw.len
      rw [List.length_zip]
      exact Nat.le_trans (Nat.min_le_left _ _) (Nat.le_trans this (by decide))
    · rw [List.filter_eq_self.mpr fun _ _ => rfl, List.map_map]; rfl
    · rw [map_true]
theorem ok_is_given (Y : Bi mg) (c1 : C8.Cal P w K mg base 3 "are_gifts" spAreGifts []) (c2 : C8.Cal P w K mg base 1 "is_right" spRight []) (F : FnD K d_is_given f fd) : FnOk P w K mg base CX0 4 f fd ["wants", "thing"] spAreGifts := by
  refine ok_ds F sc_is_given _ _ _ _ (fun _ => rfl) fun y hy cdv A outer s H E hr => ?_
  obtain ⟨ws, gs⟩ := y
  obtain ⟨hw, ok⟩ := hy
  refine dss_ret (A := isB (true && true)) (de_and0 ?_ fun _ => de_one (de_eq (de_callB (cr_all rfl) (rc_all (bs := (ws.zip gs).map fun _ => true)) Y.all bt_all (da_cons (de_eq (de_lcD (xs := ws.zip gs) [("want", 2), ("one", 3)] [2, 3] (fun c => [isD (eWant c.1), isD (eGift c.2)]) (fun _ => true) (fun c => .bool true) sc_is_given.nd
      (di_zip (f := eWant) (g := eGift) Y.zip (de_var 0 rfl) (de_var 1 rfl)) (by show blkC N_is_given (defScope s_is_given) _ _ = true; decide +kernel) (fun r _ s H C cl fp => dg_tup2 rfl (fun A => dg_name 2 sc_is_given.nd rfl (Or.inl rfl)) (fun A => dg_name 3 sc_is_given.nd rfl (Or.inl rfl))) (fun r _ s H C cl fp => dts_nil)
      (fun r hr2 _ s H C cl fp => ?_) ?_) ?_) da_nil)) ?_)) fun v B h => ⟨rfl, h⟩
  · exact de_callP c1 (j := 3) hr (Nat.le_refl _) (ws, gs) ⟨hw, ok⟩ (da_cons (de_var 0 rfl) (da_cons (de_var 1 rfl) da_nil))
  · exact de_callP c2 (j := 3) hr (by omega) (r.1, r.2) ⟨hw.w r.1 (zip_fst hr2), ok.r r hr2, (ok.g r hr2).len⟩ (da_cons (de_var 2 rfl) (da_cons (de_var 3 rfl) da_nil))
  · have := hw.len
    rw [List.length_zip]
    exact Nat.le_trans (Nat.min_le_left _ _) (Nat.le_trans this (by decide))
  · rw [List.filter_eq_self.mpr fun _ _ => rfl, List.map_map]; rfl
  · rw [map_true]
end
end PK
end
section
set_option Elab.async false
set_option linter.all false
set_option maxRecDepth 100000
set_option maxHeartbeats 2000000
namespace PK
open PySem PySem.Spec PyProof.Rows L2
open PM (Want manyP manyF ls letsL aget aput keys dg)
open PySem.W (AllAlike Sortable dataLe)

def kP (p : Str × Str) : List Key := [.inr p.1, .inr p.2]
theorem kP_inj (a b : Str × Str) (h : kP a = kP b) : a = b := by
  unfold kP at h
  injection h with h1 h2
  injection h2 with h2 _
  injection h1 with h1
  injection h2 with h2
  exact Prod.ext h1 h2
theorem eKey_kP (p : Str × Str) : eKey (kP p) = ePart p := rfl
abbrev DP := List ((Str × Str) × Int)
def cntStep (d : DP) (r : Str × Str × Int) : DP := aput (setd d (r.1, r.2.1) 0) (r.1, r.2.1) ((aget d (r.1, r.2.1)).getD 0 + r.2.2)
def cnt (rows : Rws) : DP := rows.foldl cntStep []
theorem foldl_take {α β : Type} {f : β → α → β} {xs : List α} {i : Nat} {x : α} {b : β} (h : xs[i]? = some x) : (xs.take (i + 1)).foldl f b = f ((xs.take i).foldl f b) x := by
  rw [List.take_add_one, h, List.foldl_append]; rfl
theorem setd_len (d : DP) (x : Str × Str) (z : Int) : (setd d x z).length ≤ d.length + 1 := by
  unfold setd
  cases aget d x with
  | none => exact PM.length_aput _ _ _
  | some v => exact Nat.le_succ _
theorem cntStep_len (d : DP) (r : Str × Str × Int) : (cntStep d r).length ≤ d.length + 2 := by
  have h1 := PM.length_aput (setd d (r.1, r.2.1) 0) (r.1, r.2.1) ((aget d (r.1, r.2.1)).getD 0 + r.2.2)
  have h2 := setd_len d (r.1, r.2.1) 0
  unfold cntStep; omega
theorem cnt_len : ∀ (rows : Rws) (d : DP), (rows.foldl cntStep d).length ≤ d.length + 2 * rows.length
  | [], d => by simp
  | r :: rows, d => by
    have h1 := cnt_len rows (cntStep d r)
    have h2 := cntStep_len d r
    rw [List.foldl_cons, List.length_cons]; omega
section
variable {P : Program} {w : World} {K : PySem.W.Frag} {mg : Str → Option Value} {base : Heap} {f : Addr} {fd : FuncData}
abbrev spCounted : Sp := spP (γ := Rws) (fun y => [isD (eRows y)]) (fun y => y.length ≤ 1000) (fun y => isO (oT kP .int (cnt y)))
theorem ok_counted (F : FnD K d_counted f fd) : FnOk P w K mg base CX0 1 f fd ["rows"] spCounted := by
  refine ok_ds F sc_counted _ _ _ _ (fun _ => rfl) fun rows hy cdv A outer s H E hr => ?_
  have hz : rows.length ≤ 1000 := hy
  refine dss_newT (i := 1) kP PyData.int (fun a ha => ?_) sc_counted.nd
  refine dss_for (di_tup (f := eRow) (xs := rows) (de_var 0 rfl)) [2, 3, 4] (fun r => [isS r.1, isS r.2.1, isI r.2.2]) (fun r _ => dg_tup3 rfl (fun A => dg_name 2 sc_counted.nd rfl (Or.inl rfl)) (fun A => dg_name 3 sc_counted.nd rfl (Or.inl rfl)) (fun A => dg_name 4 sc_counted.nd rfl (Or.inl rfl)))
    (fun i s h => s = [some (isD (eRows rows)), some (isV (.ref a)), none, none, none] ∧ h = [⟨a, oT kP .int (cnt (rows.take i))⟩]) ⟨rfl, rfl⟩ ?_ ?_
  · rintro i r s h hx ⟨rfl, rfl⟩
    have hi : i < rows.length := (List.getElem?_eq_some_iff.mp hx).1
    have hl : (cnt (rows.take i)).length ≤ 2 * i := by
      have := cnt_len (rows.take i) []
      rw [List.length_take] at this
      unfold cnt
      simp at this
      omega
    have hl2 := setd_len (cnt (rows.take i)) (r.1, r.2.1) 0
    refine dss_putT (x := (r.1, r.2.1)) (y := (aget (cnt (rows.take i)) (r.1, r.2.1)).getD 0 + r.2.2) 0 kP_inj (hu64 hr) (de_op op_add re_I0 (de_setdT (x := (r.1, r.2.1)) 0 kP_inj (hu64 hr) rfl (by omega) (de_var 1 rfl) (de_tup (ds := [.str r.1, .str r.2.1]) (da_cons (de_var 2 rfl) (da_cons (de_var 3 rfl) da_nil))) de_int) (de_var 4 rfl)) (de_var 1 rfl) (de_tup (ds := [.str r.1, .str r.2.1]) (da_cons (de_var 2 rfl) (da_cons (de_var 3 rfl) da_nil))) rfl (by omega)
      (dss_nil (wk_mask [true, true, false, false, false] _) ⟨rfl, ?_⟩)
    unfold cnt
    rw [foldl_take hx]
    rfl
  · rintro s h ⟨rfl, rfl⟩
    rw [List.take_length]
    refine dss_freezeO (hp := []) (hp' := []) 1 rfl ha ?_
    exact dss_ret (de_var 1 rfl) fun v B h => ⟨rfl, h⟩
end
/-- the rows of a heap of these -/
def heapRows (rows : Rws) : Rws := (srt ePart (keys (cnt rows))).map fun p => (p.1, p.2, dg (cnt rows) p)
def oHeap (C dx : Addr) (rows : Rws) : MO := ⟨fun o B => ∃ u, o = .ins C dx [("parts", u)] ∧ Rp B u (eRows rows), fun m ⟨u, h1, h2⟩ => ⟨u, h1, h2.mono m⟩⟩
theorem alike_parts (l : List (Str × Str)) : AllAlike (l.map ePart) := PySem.W.AllAlike.of fun b b' => by simp [ePart, PySem.W.alike, PySem.W.alikeAll]
theorem sortable_parts (l : List (Str × Str)) : Sortable (l.map ePart) := PySem.W.Sortable.tuples fun b => ⟨_, _, rfl⟩
theorem keys_get {d : DP} {p : Str × Str} (h : p ∈ keys d) : aget d p = some (dg d p) := by
  have := PM.aget_isSome_keys.mpr h
  cases e : aget d p with
  | none => rw [e] at this; cases this
  | some v => unfold dg; rw [e]; rfl
section
variable {X : Cx} {own0 : List Addr} {sl : SL} {hp hp1 : List Cell} {A : MA} {Nx : NxP} {Rt : RtP} {rest : List Stmt} {value o e : Expr} {pos pos' p : Pos} {f : Str} {a C dx : Addr} {k j : Nat}
theorem dss_fld (j : Nat) (hj : hp1[j]? = some ⟨a, oRaw (.ins C dx [])⟩) (cl : Cls X.K C) (na : NoAttr X.K C f) (he : DE X value sl hp A hp1) (ho : DE X o sl hp1 (isV (.ref a)) hp1) (hr : DSs X own0 rest sl (hp1.set j ⟨a, ⟨fun o B => ∃ u, o = .ins C dx [(f, u)] ∧ A.p u B, fun m ⟨u, h1, h2⟩ => ⟨u, h1, A.mono m h2⟩⟩⟩) Nx Rt)
    (hs : swapsWith value (some (.Attribute o f pos')) pos.line X.env = pure false := by rfl) : DSs X own0 (.Assign [.Attribute o f pos'] value pos :: rest) sl hp Nx Rt :=
  pss_imp (pss_cons (ps_fld ho he hs) hr) fun D σ H ⟨Z, B, z, S, T, k, r⟩ => ⟨Z, B, S, T, fun v B1 H1 m1 S1 q1 => ⟨Z, B1, S1, T.mono m1, fun u B2 H2 m2 S2 q2 => by
    have q2' : u = .ref a := q2
    subst q2'
    obtain ⟨o, h1, h2⟩ := S2.at hj
    have h2' : o = .ins C dx [] := h2
    subst h2'
    exact ⟨a, C, dx, [], rfl, h1, cl, na, by decide, Z, B2, z, S2.write hj (o := .ins C dx [(f, v)]) ⟨v, rfl, A.mono m2 q1⟩, T.mono (m1.trans m2), fun σ' B' H' s h m => k σ' B' H' s h (m1.trans (m2.trans m)), fun v B' H' h m => r v B' H' h (m1.trans (m2.trans m))⟩⟩⟩
abbrev spInit (K : PySem.W.Frag) : Sp := spOf (γ := Addr × Addr × Rws) (fun y => [isV (.ref y.1), isD (eRows y.2.2)]) (fun y => [⟨y.1, oRaw (.ins (HC K) y.2.1 [])⟩]) (fun y => y.2.2.length ≤ 1000) (fun y v B hp' => v = .non ∧ hp' = [⟨y.1, oHeap (HC K) y.2.1 (heapRows y.2.2)⟩])
theorem de_heap {rows : Rws} (c : C8.Mak X.prog X.w X.K X.mg X.base k "Heap" (HC X.K) (spInit X.K) []) (hr : Room j X.A) (hk : k + 1 ≤ j) (hz : rows.length ≤ 1000) (ha : DE X e sl hp (isD (eRows rows)) hp1) (hg : Gl X "Heap" := by rfl) (he : starEach [e] X.env = (false, eval e X.env) :: starEach [] X.env := by rfl) (hpl : (backTo pos (starEach [] X.env)).any (·.1) = false := by rfl) :
    DE X (.Call (.Name "Heap" p) [e] [] pos) sl hp (isHeap (HC X.K) (heapRows rows)) hp1 :=
  pe_imp (C8.pe_mk c hr hk hg (da_cons ha da_nil he) (by decide) he hpl) fun σ H Q ⟨Z, B, S, T, k⟩ => ⟨Z, B, S, T, fun vs B1 H1 m1 S1 q1 => fun x dx hx hdx hne => by
    obtain ⟨v, rfl, hv⟩ := all2_one q1
    obtain ⟨S2, m2⟩ := S1.alloc hdx (.own x)
    have hx2 : upd H1 dx (.own x) x = none := by rw [upd_ne (fun z => hne z.symm)]; exact hx
    obtain ⟨S3, hn⟩ := S2.allocOwn hx2 (o := .ins (HC X.K) dx []) (mo := oRaw (.ins (HC X.K) dx [])) rfl
    have S4 : Sat Z _ _ ([⟨x, oRaw (.ins (HC X.K) dx [])⟩] ++ hp1) := S3.perm List.perm_append_comm
    refine ⟨(x, dx, rows), _, hz, .cons rfl (.cons ((show Rp B1 v _ from hv).mono m2) .nil), S4.enter, fun w B' H' hp' S' q => ?_⟩
    obtain ⟨rfl, rfl⟩ := q
    have S5 := S4.call S'
    obtain ⟨o, h1, ⟨u, rfl, hu⟩, S6, m3⟩ := Sat.freeze (hp := []) (hp' := hp1) (c := ⟨x, oHeap (HC X.K) dx (heapRows rows)⟩) S5 hn
    exact ⟨rfl, k (.ref x) _ _ (m1.trans (m2.trans (S'.b0.trans m3))) S6 ⟨x, dx, u, rfl, upd_same, hu.mono m3⟩⟩⟩
end
section
variable {P : Program} {w : World} {K : PySem.W.Frag} {mg : Str → Option Value} {base : Heap} {f : Addr} {fd : FuncData}
theorem ok_hInit (Y : Bi mg) (Z : Hc K) (c : C8.Cal P w K mg base 1 "counted" spCounted []) (F : FnD K d_hInit f fd) : FnOk P w K mg base CX0 2 f fd ["self", "rows"] (spInit K) := by
  refine ok_ds F sc_hInit _ _ _ _ (fun _ => rfl) fun y hy cdv A outer s H E hr => ?_
  obtain ⟨a, dx, rows⟩ := y
  have hz : rows.length ≤ 1000 := hy
  have hlen : (srt ePart (keys (cnt rows))).length ≤ 2000 := by
    rw [(srt_perm _ _).length_eq]
    have := cnt_len rows []
    unfold keys cnt
    rw [List.length_map]
    simp at this
    omega
  refine dss_set (i := 2) (A := isO (oT kP .int (cnt rows))) (hp1 := [⟨a, oRaw (.ins (HC K) dx [])⟩]) ?_ ?_ sc_hInit.nd
  · refine de_callP c (j := 1) hr (Nat.le_refl _) rows hz (da_cons (de_if (t := false) (hp1 := [⟨a, oRaw (.ins (HC K) dx [])⟩]) (dt_cmp op_isN (re_isN (d := eRows rows)) (de_var 1 rfl) de_non) (fun h => by cases h) fun _ => de_var 1 rfl) da_nil)
  refine dss_fld 0 rfl Z.cl Z.na (A := isD (eRows (heapRows rows))) (hp1 := [⟨a, oRaw (.ins (HC K) dx [])⟩]) ?_ (de_var 0 rfl) (dss_nil (Wk.refl _) fun B => ⟨rfl, rfl⟩)
  refine de_callTy call_tuple_of rc_tupleL Y.tuple bt_tuple (da_cons (hp1 := [⟨a, oRaw (.ins (HC K) dx [])⟩]) (de_eq (de_lcD (xs := srt ePart (keys (cnt rows))) [("form", 3), ("shade", 4)] [3, 4] (fun p => [isS p.1, isS p.2]) (fun _ => true) (fun p => eRow (p.1, p.2, dg (cnt rows) p)) sc_hInit.nd
    (di_list (f := ePart) ?_) (by show blkC N_hInit (defScope s_hInit) _ _ = true; decide +kernel) (fun r _ s H C cl fp => dg_tup2 rfl (fun A => dg_name 3 sc_hInit.nd rfl (Or.inl rfl)) (fun A => dg_name 4 sc_hInit.nd rfl (Or.inl rfl))) (fun r _ s H C cl fp => dts_nil)
    (fun r hr2 _ s H C cl fp => ?_) (Nat.le_trans hlen (by decide))) ?_) da_nil)
  · exact de_callB (cr_sortDT rfl (hu64 hr)) (rc_sortT (ke := kP) (alike_parts _) (sortable_parts _)) Y.sorted bt_sorted (da_cons (de_var 2 rfl) da_nil)
  · refine de_tup (ds := [.str r.1, .str r.2, .int (dg (cnt rows) r)]) (da_cons (de_var 3 rfl) (da_cons (de_var 4 rfl) (da_cons (de_getT (x := r) kP_inj (hu64 hr) (keys_get ((srt_perm _ _).mem_iff.mp hr2)) acc_fr (de_var 2 rfl) (de_tup (ds := [.str r.1, .str r.2]) (da_cons (de_var 3 rfl) (da_cons (de_var 4 rfl) da_nil)))) da_nil)))
  · rw [List.filter_eq_self.mpr fun _ _ => rfl]
    unfold heapRows
    rw [List.map_map]; rfl
end
end PK
end
section
set_option Elab.async false
set_option linter.all false
set_option maxRecDepth 100000
set_option maxHeartbeats 4000000
namespace PK
open PySem PySem.Spec PyProof.Rows L2
open PM (Want manyP manyF ls letsL aget aput keys dg Spr SprEnd)
open PySem.W (AllAlike Sortable dataLe)

section
variable {X : Cx} {own0 : List Addr} {sl : SL} {hp hp1 : List Cell} {A : MA} {Nx : NxP} {Rt : RtP} {rest : List Stmt} {e o i : Expr} {es : List Expr} {pos pos' p : Pos} {x : Str} {As : List MA} {k' : Nat} {d : PyData}
theorem de_tupA (h : DA X es sl hp As hp1) (hz : As.length ≤ 1000 := by exact Nat.le_of_ble_eq_true rfl) : DE X (.Tuple es k' pos) sl hp (tupA As) hp1 := pe_imp (pe_tup h) fun σ H Q ⟨Z, B, S, T, k⟩ =>
  ⟨Z, B, S, T, fun xs B1 H1 m1 S1 q1 => by
    refine ⟨by rw [Paired.length q1]; exact Nat.le_trans hz (by decide), fun p hp => ?_⟩
    obtain ⟨S2, m2⟩ := S1.alloc hp (.tup xs)
    exact k _ _ _ (m1.trans m2) S2 ⟨p, xs, rfl, upd_same, q1.mono m2⟩⟩
theorem all2_get {B : Hp} {vs : List V} {As : List MA} {i : Nat} {A : MA} (h : All2 B vs As) (hi : As[i]? = some A) : ∃ v, vs[i]? = some v ∧ A.p v B := by
  induction h generalizing i with
  | nil => simp at hi
  | cons h1 _ ih =>
    cases i with
    | zero => simp at hi; subst hi; exact ⟨_, rfl, h1⟩
    | succ i => obtain ⟨v, h1, h2⟩ := ih (i := i) (by simpa using hi); exact ⟨v, by simpa using h1, h2⟩
/-- an item of a list told one by one -/
theorem de_ixLA {j : Nat} (hj : As[j]? = some A) (ho : DE X o sl hp (listA As) hp) (hi : DE X i sl hp (isI (j : Int)) hp) (hs : PlainIx i := by exact fun _ _ => rfl) : DE X (.Subscript o i pos) sl hp A hp :=
  pe_imp (pe_ix ix_list ho hi hs) fun σ H Q ⟨Z, B, S, T, k⟩ => ⟨Z, B, S, T, fun v B1 H1 m1 S1 ⟨a, xs, e1, h1, h2⟩ => ⟨Z, B1, S1, T.mono m1, fun w B2 H2 m2 S2 q2 => by
    subst e1
    cases q2
    obtain ⟨u, hu, hA⟩ := all2_get h2 hj
    exact ⟨a, xs, (j : Int), u, rfl, rfl, SqL.of (S2.bh _ _ (m2 _ _ h1)), atI_nat' hu, k u B2 H2 (m1.trans m2) S2 (A.mono m2 hA)⟩⟩⟩
/-- an item of a tuple told one by one -/
theorem de_ixTA {j : Nat} (hj : As[j]? = some A) (ho : DE X o sl hp (tupA As) hp) (hi : DE X i sl hp (isI (j : Int)) hp) (hs : PlainIx i := by exact fun _ _ => rfl) : DE X (.Subscript o i pos) sl hp A hp :=
  pe_imp (pe_ix ix_tup ho hi hs) fun σ H Q ⟨Z, B, S, T, k⟩ => ⟨Z, B, S, T, fun v B1 H1 m1 S1 ⟨a, xs, e1, h1, h2⟩ => ⟨Z, B1, S1, T.mono m1, fun w B2 H2 m2 S2 q2 => by
    subst e1
    cases q2
    obtain ⟨u, hu, hA⟩ := all2_get h2 hj
    exact ⟨a, xs, (j : Int), u, rfl, rfl, SqT.of (S2.bh _ _ (m2 _ _ h1)), atI_nat' hu, k u B2 H2 (m1.trans m2) S2 (A.mono m2 hA)⟩⟩⟩
/-- x = [e] -/
theorem dss_newL1 {i : Nat} (he : DE X e sl hp (isD d) hp) (hr : ∀ a, a ∉ own0 → DSs X own0 rest (sl.set i (some (isV (.ref a)))) (hp ++ [⟨a, oL [d]⟩]) Nx Rt) (hN : X.N.Nodup) (hi : X.N[i]? = some x := by rfl) (hx : Loc X.env.scope x := by first | exact Or.inl rfl | exact Or.inr rfl)
    (hse : starEach [e] X.env = (false, eval e X.env) :: starEach [] X.env := by rfl) (hs : swapsWith (.List [e] p) (some (.Name x pos')) pos.line X.env = pure false := by rfl) (hf : X.fn x = true ∨ X.env.scope.names.lookup x = some .local := by first | exact .inl rfl | exact .inr rfl | assumption) :
    DSs X own0 (.Assign [.Name x pos'] (.List [e] p) pos :: rest) sl hp Nx Rt := by
  refine pss_imp (pss_cons (ps_set hN hi hx (pe_lst (da_cons he da_nil hse)) hs hf) (pss_ex fun a => pss_hyp (hr a))) fun D σ H ⟨Z, B, z, S, T, k, r⟩ => ⟨Z, B, S, T, fun vs B1 H1 m1 S1 q1 => ?_⟩
  obtain ⟨v, rfl, hv⟩ := all2_one q1
  refine ⟨by show 1 ≤ sizeLine; decide, fun p hp => ?_⟩
  obtain ⟨S2, hn⟩ := S1.allocOwn hp (o := .lst [v]) (mo := oL [d]) ⟨[v], rfl, .cons hv .nil⟩
  exact ⟨p, by rw [← z]; exact hn, Z, B1, z, S2, (T.mono m1).set (A := isV (.ref p)) rfl i, fun σ' B' H' s h m => k σ' B' H' s h (m1.trans m), fun v B' H' h m => r v B' H' h (m1.trans m)⟩
/-- x = {k: v}, k a number or a text -/
theorem dss_dispK {κ β : Type} [DecidableEq κ] {i : Nat} {k v : Expr} {kx : κ} {y : β} (kk : κ → Key) (ve : β → PyData) (hk : ∀ a, DE X k sl (hp ++ [⟨a, oRaw (.dK [])⟩]) (isD (dKey (kk kx))) (hp ++ [⟨a, oRaw (.dK [])⟩])) (hv : ∀ a, DE X v sl (hp ++ [⟨a, oRaw (.dK [])⟩]) (isD (ve y)) (hp ++ [⟨a, oRaw (.dK [])⟩]))
    (hr : ∀ a, a ∉ own0 → DSs X own0 rest (sl.set i (some (isV (.ref a)))) (hp ++ [⟨a, oK kk ve [(kx, y)]⟩]) Nx Rt) (hN : X.N.Nodup) (hi : X.N[i]? = some x := by rfl) (hx : Loc X.env.scope x := by first | exact Or.inl rfl | exact Or.inr rfl)
    (hs : swapsWith (.Dict [some k] [v] p) (some (.Name x pos')) pos.line X.env = pure false := by rfl) (hf : X.fn x = true ∨ X.env.scope.names.lookup x = some .local := by first | exact .inl rfl | exact .inr rfl | assumption) :
    DSs X own0 (.Assign [.Name x pos'] (.Dict [some k] [v] p) pos :: rest) sl hp Nx Rt := by
  have hk' : PE X k (fun σ H Q => ∃ a, tDE sl (hp ++ [⟨a, oRaw (.dK [])⟩]) (isD (dKey (kk kx))) (hp ++ [⟨a, oRaw (.dK [])⟩]) σ H Q) := pe_ex hk
  have hv' : PE X v (fun σ H Q => ∃ a, tDE sl (hp ++ [⟨a, oRaw (.dK [])⟩]) (isD (ve y)) (hp ++ [⟨a, oRaw (.dK [])⟩]) σ H Q) := pe_ex hv
  refine pss_imp (pss_cons (ps_set hN hi hx (pe_disp (pps_cons hk' hv' pps_nil) rfl rfl (by simp) (by simp)) hs hf) (pss_ex fun a => pss_hyp (hr a))) fun D σ H ⟨Z, B, z, S, T, k, r⟩ => fun p hp0 => ?_
  obtain ⟨S2, hn⟩ := S.allocOwn hp0 (o := .dK []) (mo := oRaw (.dK [])) rfl
  refine ⟨p, Z, B, S2, T, fun w B1 H1 m1 S1 q1 => ⟨p, Z, B1, S1, T.mono m1, fun u B2 H2 m2 S3 q2 => ?_⟩⟩
  have hcell : (hp ++ [(⟨p, oRaw (.dK [])⟩ : Cell)])[hp.length]? = some ⟨p, oRaw (.dK [])⟩ := by simp
  obtain ⟨o, ho, hoo⟩ := S3.at hcell
  have hoo' : o = .dK [] := hoo
  subst hoo'
  obtain rfl := rp_key q1
  refine ⟨ho, [(kk kx, u)], rfl, (by show 1 ≤ 15; decide), p, by rw [← z]; exact hn, Z, B2, z, ?_, (T.mono (m1.trans m2)).set (A := isV (.ref p)) rfl i, fun σ' B' H' s h m => k σ' B' H' s h (m1.trans (m2.trans m)), fun v B' H' h m => r v B' H' h (m1.trans (m2.trans m))⟩
  have S7 := Sat.write S3 hcell (o := .dK [(kk kx, u)]) (mo := oK kk ve [(kx, y)]) ⟨_, rfl, .cons ⟨rfl, q2⟩ .nil⟩
  have e : (hp ++ [(⟨p, oRaw (.dK [])⟩ : Cell)]).set hp.length ⟨p, oK kk ve [(kx, y)]⟩ = hp ++ [⟨p, oK kk ve [(kx, y)]⟩] := by
    rw [List.set_append_right _ _ (Nat.le_refl _)]; simp
  rw [e] at S7
  exact S7
end
abbrev natD (i : Nat) : PyData := .int (i : Int)
def optP : Option (Str × Str) → PyData
  | none => .none
  | some p => ePart p
def kI (i : Nat) : Key := .inl (i : Int)
theorem kI_inj (a b : Nat) (h : kI a = kI b) : a = b := by
  unfold kI at h
  injection h with h
  omega
def gcells (as : List Addr) (gs : List DP) : List Cell := (as.zip gs).map fun q => ⟨q.1, oT kP .int q.2⟩
theorem gcells_at {as : List Addr} {gs : List DP} {i : Nat} {a : Addr} {g : DP} (h1 : as[i]? = some a) (h2 : gs[i]? = some g) : (gcells as gs)[i]? = some ⟨a, oT kP .int g⟩ := by
  unfold gcells
  rw [List.getElem?_map, List.getElem?_zip_eq_some (z := (a, g)) |>.mpr ⟨h1, h2⟩]; rfl
def dW : Wt := ⟨Str.empty, [], 0⟩
abbrev Wf (ws : List Wt) (i : Nat) : Wt := ws.getD i dW
abbrev Gg (gs : List DP) (i : Nat) : DP := gs.getD i []
/-- as the parts stand at first -/
def pleft (rows : Rws) : DP := rows.foldl (fun d r => aput d (r.1, r.2.1) r.2.2) []
theorem pleft_len : ∀ (rows : Rws) (d : DP), (rows.foldl (fun d r => aput d (r.1, r.2.1) r.2.2) d).length ≤ d.length + rows.length
  | [], d => by simp
  | r :: rows, d => by
    have h1 := pleft_len rows (aput d (r.1, r.2.1) r.2.2)
    have h2 := PM.length_aput d (r.1, r.2.1) r.2.2
    rw [List.foldl_cons, List.length_cons]; omega
section
variable {P : Program} {w : World} {K : PySem.W.Frag} {mg : Str → Option Value} {base : Heap} {f : Addr} {fd : FuncData}
abbrev spRows (K : PySem.W.Frag) : Sp := spP (γ := Rws) (fun y => [isHeap (HC K) y]) (fun y => True) (fun y => isD (eRows y))
abbrev spPartsLeft (K : PySem.W.Frag) : Sp := spOf (γ := Rws) (fun y => [isHeap (HC K) y]) (fun _ => []) (fun y => y.length ≤ 1000) (fun y v B hp' => ∃ a, v = .ref a ∧ hp' = [⟨a, oT kP .int (pleft y)⟩])
theorem ok_parts_left (c : C8.Met P w K mg base 1 (HC K) "rows" (spRows K) []) (F : FnD K d_parts_left f fd) : FnOk P w K mg base CX0 2 f fd ["heap"] (spPartsLeft K) := by
  refine ok_ds F sc_parts_left _ _ _ _ (fun _ => rfl) fun rows hy cdv A outer s H E hr => ?_
  have hz : rows.length ≤ 1000 := hy
  refine dss_newT (i := 1) kP PyData.int (fun a ha => ?_) sc_parts_left.nd
  refine dss_for (di_tup (f := eRow) (xs := rows) (hp1 := [⟨a, oT kP .int (pleft (rows.take 0))⟩]) (de_meth0 c hr (by omega) rows trivial (de_var 0 rfl) (heap_no (by decide)) (fun B v h => .cons h .nil))) [2, 3, 4] (fun r => [isS r.1, isS r.2.1, isI r.2.2]) (fun r _ => dg_tup3 rfl (fun A => dg_name 2 sc_parts_left.nd rfl (Or.inl rfl)) (fun A => dg_name 3 sc_parts_left.nd rfl (Or.inl rfl)) (fun A => dg_name 4 sc_parts_left.nd rfl (Or.inl rfl)))
    (fun i s h => s = [some (isHeap (HC K) rows), some (isV (.ref a)), none, none, none] ∧ h = [⟨a, oT kP .int (pleft (rows.take i))⟩]) ⟨rfl, rfl⟩ ?_ ?_
  · rintro i r s h hx ⟨rfl, rfl⟩
    have hi : i < rows.length := (List.getElem?_eq_some_iff.mp hx).1
    have hl : (pleft (rows.take i)).length ≤ i := by
      have h0 := pleft_len (rows.take i) []
      have h1 : (rows.take i).length ≤ i := by rw [List.length_take]; omega
      exact Nat.le_trans h0 (by rw [List.length_nil, Nat.zero_add]; exact h1)
    refine dss_putT (x := (r.1, r.2.1)) (y := r.2.2) 0 kP_inj (hu64 hr) (de_var 4 rfl) (de_var 1 rfl) (de_tup (ds := [.str r.1, .str r.2.1]) (da_cons (de_var 2 rfl) (da_cons (de_var 3 rfl) da_nil))) rfl (by omega)
      (dss_nil (wk_mask [true, true, false, false, false] _) ⟨rfl, ?_⟩)
    unfold pleft
    rw [foldl_take hx]
    rfl
  · rintro s h ⟨rfl, rfl⟩
    rw [List.take_length]
    exact dss_ret (de_var 1 rfl) fun v B h => ⟨a, h, rfl⟩
end
end PK
end
section
set_option Elab.async false
set_option linter.all false
set_option maxRecDepth 100000
set_option maxHeartbeats 8000000
namespace PK
open PySem PySem.Spec PyProof.Rows L2
open PM (Want manyP manyF ls letsL aget aput keys dg Spr SprEnd Cl Gone)
open PySem.W (AllAlike Sortable dataLe)

structure SpIn where
  rows : Rws
  ws : List Wt
  as : List Addr
  gs : List DP
  aL : Addr
  l : DP
  k : Nat
structure SpOk (y : SpIn) : Prop where
  ok : OkR y.rows
  ow : OkWs y.ws
  la : y.as.length = y.ws.length
  lg : y.gs.length = y.ws.length
  lets : ∀ i, i < y.ws.length → ∀ kv ∈ Gg y.gs i, kv.1 ∈ letsL y.rows (Wf y.ws i)
  hk : y.k < y.ws.length
def SpIn.cells (y : SpIn) : List Cell := ⟨y.aL, oT kP .int y.l⟩ :: gcells y.as y.gs
abbrev SpRes := List ((Str × Str) × Nat) × List (Nat × Option (Str × Str)) × Option (Str × Str)
def sprA (y : SpIn) : MA := exA fun q : SpRes => andA (SprEnd y.rows (Wf y.ws) y.ws.length (Gg y.gs) y.l y.k q.1 q.2.1 q.2.2 ∧ q.2.1.length ≤ 6) (tupA [isO (oT kP natD q.1), isO (oK kI optP q.2.1), isD (optP q.2.2)])
abbrev gA (as : List Addr) : MA := listA (as.map fun a => isV (.ref a))
abbrev spSpread (K : PySem.W.Frag) : Sp := spOf (γ := SpIn) (fun y => [isHeap (HC K) y.rows, isD (eWants y.ws), gA y.as, isV (.ref y.aL), isI (y.k : Int)]) SpIn.cells SpOk (fun y v B hp' => hp' = y.cells ∧ (sprA y).p v B)
theorem lets_len {rows : Rws} {w : Wt} (h1 : OkR rows) (h2 : OkW w) : (letsL rows w).length ≤ 12 := by
  unfold letsL
  split
  · rw [List.length_map]
    exact Nat.le_trans (List.length_filter_le ..) h1.len
  · rw [List.length_map]
    exact Nat.le_trans h2.len (by decide)
theorem wf_mem {ws : List Wt} {i : Nat} (h : i < ws.length) : Wf ws i ∈ ws := getD_mem h
theorem wf_get {ws : List Wt} {i : Nat} (h : i < ws.length) : ws[i]? = some (Wf ws i) := getD_get h
theorem shades_nodup : shadesL.Nodup := by decide +kernel
theorem keys_le {β : Type} {d : List (Nat × β)} {n : Nat} (h : (keys d).length ≤ n) (hn : n ≤ 6) : d.length ≤ 6 := by
  unfold keys at h
  rw [List.length_map] at h
  omega
/-- the cells while it spreads -/
def spHp (y : SpIn) (aF aH aP : Addr) (parts : List ((Str × Str) × Nat)) (holders : List (Nat × Option (Str × Str))) : List Cell :=
  ⟨aF, oL ((keys holders).map natD)⟩ :: ⟨aH, oK kI optP holders⟩ :: ⟨aP, oT kP natD parts⟩ :: y.cells
def spSl (K : PySem.W.Frag) (y : SpIn) (aF aH aP : Addr) (at_ : Nat) (s9 s10 : Option MA) : SL :=
  [some (isHeap (HC K) y.rows), some (isD (eWants y.ws)), some (gA y.as), some (isV (.ref y.aL)), some (isI (y.k : Int)), some (isV (.ref aP)), some (isV (.ref aH)), some (isV (.ref aF)), some (isI (at_ : Int)), s9, s10]
section
variable {P : Program} {w : World} {K : PySem.W.Frag} {mg : Str → Option Value} {base : Heap} {f : Addr} {fd : FuncData}
theorem ok_spread (Y : Bi mg) (c : C8.Cal P w K mg base 2 "lets" (spLets K) []) (F : FnD K d_spread f fd) : FnOk P w K mg base CX0 3 f fd ["heap", "wants", "gifts", "left", "k"] (spSpread K) := by
  refine ok_ds F sc_spread _ _ _ _ (fun _ => rfl) fun y hy cdv A outer s H E hr => ?_
  have ok : SpOk y := hy
  refine dss_newT (i := 5) kP natD (fun aP haP => ?_) sc_spread.nd
  refine dss_perm (hp' := ⟨aP, oT kP natD []⟩ :: y.cells) List.perm_append_comm ?_
  refine dss_dispK (i := 6) (kx := y.k) (y := none) kI optP (fun a => de_var 4 rfl) (fun a => de_non) (fun aH haH => ?_) sc_spread.nd
  refine dss_perm (hp' := ⟨aH, oK kI optP [(y.k, none)]⟩ :: ⟨aP, oT kP natD []⟩ :: y.cells) List.perm_append_comm ?_
  refine dss_newL1 (i := 7) (d := natD y.k) (de_var 4 rfl) (fun aF haF => ?_) sc_spread.nd
  refine dss_perm (hp' := spHp y aF aH aP [] [(y.k, none)]) List.perm_append_comm ?_
  refine dss_set (i := 8) de_int ?_ sc_spread.nd
  -- the way out
  have frz : ∀ (parts : List ((Str × Str) × Nat)) (holders : List (Nat × Option (Str × Str))) (at_ : Nat) (s9 s10 : Option MA) (sts : List Stmt) (Nx : NxP) (Rt : RtP),
      DSs (cxOf CX0 P w K mg base N_spread d_spread.qual d_spread.scope f cdv A outer s H E).nox (y.cells.map (·.a)) sts [some (isHeap (HC K) y.rows), some (isD (eWants y.ws)), some (gA y.as), some (isV (.ref y.aL)), some (isI (y.k : Int)), some (isO (oT kP natD parts)), some (isO (oK kI optP holders)), some (isD (.list ((keys holders).map natD))), some (isI (at_ : Int)), s9, s10] y.cells Nx Rt →
      DSs (cxOf CX0 P w K mg base N_spread d_spread.qual d_spread.scope f cdv A outer s H E).nox (y.cells.map (·.a)) sts (spSl K y aF aH aP at_ s9 s10) (spHp y aF aH aP parts holders) Nx Rt := by
    intro parts holders at_ s9 s10 sts Nx Rt h
    refine dss_freeze (hp := []) (ds := (keys holders).map natD) 7 rfl haF ?_
    refine dss_freezeO (hp := []) 6 rfl haH ?_
    exact dss_freezeO (hp := []) 5 rfl haP h
  have hn6 := ok.ow.len
  -- the loop
  refine dss_while (fun m s h => ∃ (at_ : Nat) (parts : List ((Str × Str) × Nat)) (holders : List (Nat × Option (Str × Str))), (m = y.ws.length - at_ ∧ (∃ r, Spr y.rows (Wf y.ws) y.ws.length (Gg y.gs) y.k parts holders r) ∧ (keys holders).Nodup ∧ Cl y.ws.length (Gg y.gs) y.l parts holders ∧ Gone y.rows (Wf y.ws) parts holders at_ ∧ parts.length ≤ 20 * at_) ∧ s = spSl K y aF aH aP at_ none none ∧ h = spHp y aF aH aP parts holders)
    y.ws.length ⟨0, [], [(y.k, none)], ⟨rfl, ⟨_, Spr.start ok.hk⟩, by simp [keys], (fun p h => by cases h), (fun i w h => by omega), Nat.le_refl _⟩, rfl, rfl⟩ ?_
  rintro m s h ⟨at_, parts, holders, ⟨rfl, ⟨r, spr⟩, nd, cl, gone, plen⟩, rfl, rfl⟩
  have hlen := spr.len nd
  refine ⟨decide (at_ < (keys holders).length), spHp y aF aH aP parts holders, ?_, fun hb => ?_, fun hb => ?_⟩
  · refine dt_eq (dt_cmp op_lt re_B0 (de_var 8 rfl) (de_lenOwn 0 rfl Y.len bt_len (de_var 7 rfl))) ?_
    rw [List.length_map]
    by_cases q : at_ < (keys holders).length
    · rw [decide_eq_true q]; exact decide_eq_true (by omega)
    · rw [decide_eq_false q]; exact decide_eq_false (by omega)
  · -- one turn
    have hat : at_ < (keys holders).length := of_decide_eq_true hb
    have hwget : (keys holders)[at_]? = some (keys holders)[at_] := List.getElem?_eq_getElem hat
    generalize hwc : (keys holders)[at_] = wc at hwget
    have hwin : (aget holders wc).isSome = true := PM.aget_isSome_keys.mpr (List.mem_of_getElem? hwget)
    have hwn : wc < y.ws.length := by
      cases q : aget holders wc with
      | none => rw [q] at hwin; cases hwin
      | some o => exact spr.lt wc o q
    have okw := ok.ow.w _ (wf_mem hwn)
    have hL12 := lets_len ok.ok okw
    have hLnd := PM.letsL_nodup (rows := y.rows) ok.ok.nd (List.Sublist.nodup okw.sh shades_nodup)
    generalize hLdef : ((letsL y.rows (Wf y.ws wc)).filter fun p => !(aget parts p).isSome) = L
    have hLlen : L.length ≤ 12 := by rw [← hLdef]; exact Nat.le_trans (List.length_filter_le ..) hL12
    have hLn : L.Nodup := by rw [← hLdef]; exact hLnd.filter _
    have hLin : ∀ p ∈ L, p ∈ letsL y.rows (Wf y.ws wc) ∧ aget parts p = none := fun p hp => by
      rw [← hLdef] at hp
      obtain ⟨h1, h2⟩ := List.mem_filter.mp hp
      refine ⟨h1, ?_⟩
      cases q : aget parts p with
      | none => rfl
      | some v => rw [q] at h2; cases h2
    have hLout : ∀ p ∈ letsL y.rows (Wf y.ws wc), p ∉ L → (aget parts p).isSome = true := fun p hp hn => by
      cases q : (aget parts p).isSome with
      | true => rfl
      | false => exact absurd (by rw [← hLdef]; exact List.mem_filter.mpr ⟨hp, by rw [q]; rfl⟩) hn
    refine dss_for (xs := L) (I := fun p => isD (ePart p)) (hp1 := spHp y aF aH aP parts holders) ?_ [9] (fun p => [isD (ePart p)]) (fun p _ => dg_name 9 sc_spread.nd rfl (Or.inl rfl))
      (fun i s h => ∃ (parts2 : List ((Str × Str) × Nat)) (holders2 : List (Nat × Option (Str × Str))), ((∃ r, Spr y.rows (Wf y.ws) y.ws.length (Gg y.gs) y.k parts2 holders2 r) ∧ (keys holders2).Nodup ∧ Cl y.ws.length (Gg y.gs) y.l parts2 holders2 ∧ Gone y.rows (Wf y.ws) parts2 holders2 at_ ∧ (keys holders2)[at_]? = some wc ∧
        (∀ p ∈ letsL y.rows (Wf y.ws wc), p ∉ L → (aget parts2 p).isSome = true) ∧ (∀ j p, L[j]? = some p → j < i → (aget parts2 p).isSome = true) ∧ (∀ j p, L[j]? = some p → i ≤ j → aget parts2 p = none) ∧ parts2.length ≤ 20 * at_ + i) ∧ s = spSl K y aF aH aP at_ none none ∧ h = spHp y aF aH aP parts2 holders2)
      ⟨parts, holders, ⟨⟨r, spr⟩, nd, cl, gone, hwget, hLout, (fun j p _ h => by omega), fun j p h _ => (hLin p (List.mem_of_getElem? h)).2, plen⟩, rfl, rfl⟩ ?_ ?_
    · -- the parts
      refine di_list (f := ePart) (de_eq (de_lcD (xs := letsL y.rows (Wf y.ws wc)) [("part", 9)] [9] (fun p => [isD (ePart p)]) (fun p => !(aget parts p).isSome) ePart sc_spread.nd (di_list (f := ePart) ?_) (by show blkC N_spread (defScope s_spread) _ _ = true; decide +kernel) (fun p _ s H C cl fp => dg_name 9 sc_spread.nd rfl (Or.inl rfl))
        (fun p _ s H C cl fp => dts_one (dt_notInT (x := p) kP_inj (hu64 hr) (acc_own 2 rfl) (de_var 9 rfl) (de_var 5 rfl))) (fun p _ _ s H C cl fp => de_var 9 rfl) (Nat.le_trans hL12 (by decide))) (by rw [hLdef]))
      refine de_callP c (j := 2) hr (Nat.le_refl _) (y.rows, Wf y.ws wc) ⟨ok.ok.len', okw⟩ (da_cons (de_var 0 rfl) (da_cons (de_ixT (d := eWant (Wf y.ws wc)) (atI_nat' (by rw [List.getElem?_map, wf_get hwn] <;> rfl)) (de_var 1 rfl) (de_ixOwn (d := natD wc) 0 rfl (atI_nat' (by rw [List.getElem?_map, hwget] <;> rfl)) (de_var 7 rfl) (de_var 8 rfl))) da_nil))
    · -- a part
      rintro i p s h hx ⟨parts2, holders2, ⟨⟨r2, spr2⟩, nd2, cl2, gone2, wget2, lout2, lin2, lno2, plen2⟩, rfl, rfl⟩
      have hpL := hLin p (List.mem_of_getElem? hx)
      have hpn : aget parts2 p = none := lno2 i p hx (Nat.le_refl _)
      have hlt : i < L.length := (List.getElem?_eq_some_iff.mp hx).1
      have hlen2 := spr2.len nd2
      have hat6 : at_ < 6 := by
        have h1 := (List.getElem?_eq_some_iff.mp wget2).1
        omega
      obtain ⟨o2, ho2⟩ : ∃ o, aget holders2 wc = some o := by
        have := PM.aget_isSome_keys.mpr (List.mem_of_getElem? wget2)
        cases q : aget holders2 wc with
        | none => rw [q] at this; cases this
        | some o => exact ⟨o, rfl⟩
      obtain ⟨r3, spr3⟩ := spr2.addPart ho2 hpn hpL.1
      refine dss_putT (x := p) (y := wc) (hp1 := spHp y aF aH aP parts2 holders2) 2 kP_inj (hu64 hr) (de_ixOwn (d := natD wc) 0 rfl (atI_nat' (by rw [List.getElem?_map, wget2] <;> rfl)) (de_var 7 rfl) (de_var 8 rfl)) (de_var 5 rfl) (de_var 9 rfl) rfl (by omega) ?_
      show DSs _ _ _ (spSl K y aF aH aP at_ (some (isD (ePart p))) none) (spHp y aF aH aP (aput parts2 p wc) holders2) _ _
      refine dss_ifr (b := decide (0 < dg y.l p)) (dt_cmp op_gt re_B0 (de_get2T (x := p) (z := 0) kP_inj (hu64 hr) (acc_own 3 rfl) (de_var 3 rfl) (de_var 9 rfl) de_int) de_int) (fun hb2 => ?_) (fun hb2 => ?_)
      · have hpos : 0 < dg y.l p := of_decide_eq_true hb2
        refine frz (aput parts2 p wc) holders2 at_ _ none _ _ _ (dss_ret (de_tupA (As := [isO (oT kP natD (aput parts2 p wc)), isO (oK kI optP holders2), isD (optP (some p))]) (da_cons (de_var 5 rfl) (da_cons (de_var 6 rfl) (da_cons (de_var 9 rfl) da_nil)))) fun v B h => ⟨rfl, ⟨(aput parts2 p wc, holders2, some p), ⟨⟨⟨r3, spr3⟩, fun q e => ?_, fun e => by cases e⟩, keys_le hlen2 hn6⟩, h⟩⟩)
        cases e
        exact ⟨PM.some_put_self, hpos⟩
      · have hnp : dg y.l p ≤ 0 := Int.not_lt.mp (of_decide_eq_false hb2)
        refine dss_for (di_range1 (n := y.ws.length) Y.range (da_cons (de_eq (de_callB call_len_seq (rc_lenT (ds := y.ws.map eWant)) Y.len bt_len (da_cons (de_var 1 rfl) da_nil)) (by rw [List.length_map])) da_nil) (by omega)) [10] (fun j => [isI ((j : Nat) : Int)]) (fun j _ => dg_name 10 sc_spread.nd rfl (Or.inl rfl))
          (fun j s h => ∃ (h3 : List (Nat × Option (Str × Str))), ((∃ r, Spr y.rows (Wf y.ws) y.ws.length (Gg y.gs) y.k (aput parts2 p wc) h3 r) ∧ (keys h3).Nodup ∧ (∀ p', p' ≠ p → (aget (aput parts2 p wc) p').isSome = true → dg y.l p' ≤ 0 ∧ ∀ j', j' < y.ws.length → 0 < dg (Gg y.gs j') p' → (aget h3 j').isSome = true) ∧
            (∀ j', j' < j → 0 < dg (Gg y.gs j') p → (aget h3 j').isSome = true) ∧ Gone y.rows (Wf y.ws) (aput parts2 p wc) h3 at_ ∧ (keys h3)[at_]? = some wc) ∧ s = spSl K y aF aH aP at_ (some (isD (ePart p))) none ∧ h = spHp y aF aH aP (aput parts2 p wc) h3)
          ⟨holders2, ⟨⟨r3, spr3⟩, nd2, fun p' hne hp' => ?_, (fun j' h => by omega), fun i' w' hi' hw' q hq => PM.some_put (gone2 i' w' hi' hw' q hq), wget2⟩, rfl, rfl⟩ ?_ ?_
        · rcases PM.some_put_inv hp' with e | e
          · exact absurd e hne
          · exact cl2 p' e
        · rintro j j' s h hj ⟨h3, ⟨⟨r4, spr4⟩, nd3, cl3, clp, gone3, wget3⟩, rfl, rfl⟩
          obtain ⟨hjl, hje⟩ := List.getElem?_eq_some_iff.mp hj
          rw [List.getElem_range] at hje
          subst hje
          rw [List.length_range] at hjl
          have hlen3 := spr4.len nd3
          obtain ⟨aj, haj⟩ : ∃ a, y.as[j]? = some a := ⟨y.as[j]'(by rw [ok.la]; exact hjl), List.getElem?_eq_getElem _⟩
          have hgj : y.gs[j]? = some (Gg y.gs j) := getD_get (by rw [ok.lg]; exact hjl)
          refine dss_when (b := !(aget h3 j).isSome && decide (0 < dg (Gg y.gs j) p)) (M := fun s h => ∃ (h4 : List (Nat × Option (Str × Str))), ((∃ r, Spr y.rows (Wf y.ws) y.ws.length (Gg y.gs) y.k (aput parts2 p wc) h4 r) ∧ (keys h4).Nodup ∧ (∀ p', p' ≠ p → (aget (aput parts2 p wc) p').isSome = true → dg y.l p' ≤ 0 ∧ ∀ j', j' < y.ws.length → 0 < dg (Gg y.gs j') p' → (aget h4 j').isSome = true) ∧
            (∀ j', j' < j + 1 → 0 < dg (Gg y.gs j') p → (aget h4 j').isSome = true) ∧ Gone y.rows (Wf y.ws) (aput parts2 p wc) h4 at_ ∧ (keys h4)[at_]? = some wc) ∧ s = spSl K y aF aH aP at_ (some (isD (ePart p))) (some (isI ((j : Nat) : Int))) ∧ h = spHp y aF aH aP (aput parts2 p wc) h4)
            (dt_w (dw_and (dt_notInK (x := j) kI_inj (hu64 hr) (acc_own 1 rfl) (de_var 10 rfl) (de_var 6 rfl)) fun hb3 => dw_and1 (dt_cmp op_gt re_B0 (de_get2T (A := isV (.ref aj)) (d := Gg y.gs j) (x := p) (z := 0) kP_inj (hu64 hr) (acc_own (j + 4) ?_) (de_ixLA (As := y.as.map fun a => isV (.ref a)) (j := j) ?_ (de_var 2 rfl) (de_var 10 rfl)) (de_var 9 rfl) de_int) de_int))) (fun hb3 => ?_) (fun hb3 => ?_) (fun s h ⟨h4, fs, e1, e2⟩ => ?_)
          · show (gcells y.as y.gs)[j]? = _
            exact gcells_at haj hgj
          · rw [List.getElem?_map, haj]; rfl
          · obtain ⟨hb4, hb5⟩ := Bool.and_eq_true_iff.mp hb3
            have hjn : aget h3 j = none := by
              cases q : aget h3 j with
              | none => rfl
              | some v => rw [q] at hb4; cases hb4
            have hgp : 0 < dg (Gg y.gs j) p := of_decide_eq_true hb5
            have hpl : p ∈ letsL y.rows (Wf y.ws j) := ok.lets j hjl _ (PM.dg_pos_mem hgp)
            have spr5 := spr4.addHold hjn hjl PM.some_put_self hgp hpl
            refine dss_putK (x := j) (y := some p) (hp1 := spHp y aF aH aP (aput parts2 p wc) h3) 1 kI_inj (hu64 hr) (de_var 9 rfl) (de_var 6 rfl) (de_var 10 rfl) rfl (by unfold keys at hlen3; rw [List.length_map] at hlen3; omega) ?_
            refine dss_append (a := aF) (ds := (keys h3).map natD) (d := natD j) 0 (de_var 7 rfl) (de_var 10 rfl) rfl (by rw [List.length_map]; omega) (dss_nil (Wk.refl _) ⟨aput h3 j (some p), ⟨⟨r4, spr5⟩, PM.nodup_aput nd3, fun p' hne hp' => ?_, fun j' hj' hg' => ?_, fun i' w' hi' hw' q hq => ?_, ?_⟩, rfl, ?_⟩) rfl rfl
              (pe_bm PySem.F.plainAttrs_list PySem.F.slot_list_append PySem.F.type_list_append mt_append (de_var 7 rfl) (pa_cons (de_var 10 rfl) pa_nil))
            · obtain ⟨c1, c2⟩ := cl3 p' hne hp'
              exact ⟨c1, fun j' h1 h2 => PM.some_put (c2 j' h1 h2)⟩
            · by_cases q : j' = j
              · rw [q]; exact PM.some_put_self
              · exact PM.some_put (clp j' (by omega) hg')
            · rw [PM.keys_snoc _ hjn] at hw'
              have hal := (List.getElem?_eq_some_iff.mp wget3).1
              rw [List.getElem?_append_left (by omega)] at hw'
              exact gone3 i' w' hi' hw' q hq
            · rw [PM.keys_snoc _ hjn, List.getElem?_append_left (List.getElem?_eq_some_iff.mp wget3).1]; exact wget3
            · unfold spHp
              rw [PM.keys_snoc _ hjn, List.map_append]
              rfl
          · refine ⟨h3, ⟨⟨r4, spr4⟩, nd3, cl3, fun j' hj' hg' => ?_, gone3, wget3⟩, rfl, rfl⟩
            by_cases q : j' = j
            · subst q
              rw [decide_eq_true hg', Bool.and_true] at hb3
              cases q2 : (aget h3 j').isSome with
              | true => rfl
              | false => rw [q2] at hb3; cases hb3
            · exact clp j' (by omega) hg'
          · subst e1 e2
            exact dss_nil (wk_mask [true, true, true, true, true, true, true, true, true, true, false] _) ⟨h4, fs, rfl, rfl⟩
        · rintro s h ⟨h3, ⟨⟨r4, spr4⟩, nd3, cl3, clp, gone3, wget3⟩, rfl, rfl⟩
          rw [List.length_range] at clp
          refine dss_nil (wk_mask [true, true, true, true, true, true, true, true, true, false, false] _) ⟨aput parts2 p wc, h3, ⟨⟨r4, spr4⟩, nd3, fun p' hp' => ?_, gone3, wget3, fun q h1 h2 => PM.some_put (lout2 q h1 h2), fun j q h1 h2 => ?_, fun j q h1 h2 => ?_, ?_⟩, rfl, rfl⟩
          · by_cases q : p' = p
            · rw [q]; exact ⟨hnp, fun j' h1 h2 => clp j' h1 h2⟩
            · exact cl3 p' q hp'
          · by_cases e : j = i
            · subst e
              rw [hx] at h1; cases h1
              exact PM.some_put_self
            · exact PM.some_put (lin2 j q h1 (by omega))
          · have hne : ¬ q = p := fun e => by
              rw [e] at h1
              obtain ⟨a1, b1⟩ := List.getElem?_eq_some_iff.mp h1
              obtain ⟨a2, b2⟩ := List.getElem?_eq_some_iff.mp hx
              have := (List.getElem_inj hLn).mp (b1.trans b2.symm)
              omega
            rw [PM.aget_put, if_neg hne]
            exact lno2 j q h1 (by omega)
          · have := PM.length_aput parts2 p wc
            omega
    · -- all parts
      rintro s h ⟨parts2, holders2, ⟨⟨r2, spr2⟩, nd2, cl2, gone2, wget2, lout2, lin2, lno2, plen2⟩, rfl, rfl⟩
      refine dss_set (i := 8) (de_op op_add re_I0 (de_var 8 rfl) de_int) (dss_nil (Wk.refl _) ⟨y.ws.length - (at_ + 1), by omega, at_ + 1, parts2, holders2, ⟨rfl, ⟨r2, spr2⟩, nd2, cl2, fun i' w' hi' hw' q hq => ?_, by omega⟩, rfl, rfl⟩) sc_spread.nd
      by_cases e : i' = at_
      · subst e
        rw [wget2] at hw'
        cases hw'
        by_cases hqL : q ∈ L
        · obtain ⟨j, hj⟩ := List.getElem?_of_mem hqL
          exact lin2 j q hj (List.getElem?_eq_some_iff.mp hj).1
        · exact lout2 q hq hqL
      · exact gone2 i' w' (by omega) hw' q hq
  · -- the end
    have hat : (keys holders).length ≤ at_ := Nat.le_of_not_lt (of_decide_eq_false hb)
    refine frz parts holders at_ none none _ _ _ (dss_ret (de_tupA (As := [isO (oT kP natD parts), isO (oK kI optP holders), isD .none]) (da_cons (de_var 5 rfl) (da_cons (de_var 6 rfl) (da_cons de_non da_nil)))) fun v B h => ⟨rfl, ⟨(parts, holders, none), ⟨PM.spr_none ⟨r, spr⟩ cl gone hat, keys_le hlen hn6⟩, h⟩⟩)
end
end PK
end
section
set_option Elab.async false
set_option linter.all false
set_option maxRecDepth 100000
set_option maxHeartbeats 8000000
namespace PK
open PySem PySem.Spec PyProof.Rows L2
open PM (Want manyP manyF ls letsL aget aput keys dg Spr SprEnd Cl Gone Path Way Inv Closed applyG stepG)
open PySem.W (AllAlike Sortable dataLe)

abbrev WayS := Way Str
def eStep (e : Nat × (Str × Str) × Option (Str × Str)) : PyData := .tuple [natD e.1, ePart e.2.1, optP e.2.2]
abbrev WoIn := List ((Str × Str) × Nat) × List (Nat × Option (Str × Str)) × (Str × Str) × WayS
abbrev spWayOf : Sp := spP (γ := WoIn) (fun y => [isO (oT kP natD y.1), isO (oK kI optP y.2.1), isD (ePart y.2.2.1)]) (fun y => Path y.1 y.2.1 y.2.2.1 y.2.2.2 ∧ y.2.2.2.length ≤ 100) (fun y => isD (.list (y.2.2.2.map eStep)))
/-- where the way back goes on -/
def nextP : WayS → Option (Str × Str)
  | [] => none
  | e :: _ => some e.2.1
theorem optP_not (o : Option (Str × Str)) : notNone (optP o) = o.isSome := by cases o <;> rfl
section
variable {P : Program} {w : World} {K : PySem.W.Frag} {mg : Str → Option Value} {base : Heap} {f : Addr} {fd : FuncData}
theorem ok_way_of (F : FnD K d_way_of f fd) : FnOk P w K mg base CX0 1 f fd ["parts", "holders", "part"] spWayOf := by
  refine ok_ds F sc_way_of _ _ _ _ (fun _ => rfl) fun y hy cdv A outer s H E hr => ?_
  obtain ⟨parts, holders, p, way⟩ := y
  obtain ⟨hpath, hlen⟩ := hy
  have hlen' : way.length ≤ 100 := hlen
  refine dss_newL (i := 3) (fun a ha => ?_) sc_way_of.nd
  refine dss_while (fun m s h => ∃ (done rest : WayS), (way = done ++ rest ∧ m = rest.length ∧ ∀ q, nextP rest = some q → Path parts holders q rest) ∧ s = [some (isO (oT kP natD parts)), some (isO (oK kI optP holders)), some (isD (optP (nextP rest))), some (isV (.ref a)), none] ∧ h = [⟨a, oL (done.map eStep)⟩])
    way.length ⟨[], way, ⟨rfl, rfl, fun q hq => ?_⟩, ?_, rfl⟩ ?_
  · obtain ⟨e, way', hw, he, _⟩ := hpath.first
    have hw' : way = e :: way' := hw
    rw [hw'] at hq ⊢
    cases hq
    rw [he]
    rw [hw'] at hpath
    exact hpath
  · obtain ⟨e, way', hw, he, _⟩ := hpath.first
    have hw' : way = e :: way' := hw
    rw [hw']
    show _ = [_, _, some (isD (ePart e.2.1)), _, _]
    rw [he]; rfl
  rintro m s h ⟨done, rest, ⟨hdr, rfl, hpr⟩, rfl, rfl⟩
  refine ⟨(nextP rest).isSome, [⟨a, oL (done.map eStep)⟩], dt_eq (dt_cmp op_notN (re_notN (d := optP (nextP rest))) (de_var 2 rfl) de_non) (optP_not _), fun hb => ?_, fun hb => ?_⟩
  · cases rest with
    | nil => cases hb
    | cons e rest' =>
      obtain ⟨e', way', hw, he, h1, h2, h3, h4⟩ := (hpr e.2.1 rfl).first
      injection hw with hw1 hw2
      subst hw1 hw2
      have hdl : done.length < 100000 := by
        have := congrArg List.length hdr
        rw [List.length_append] at this
        omega
      refine dss_set (i := 4) (A := isI (e.1 : Int)) (hp1 := [⟨a, oL (done.map eStep)⟩]) (de_getT (ve := natD) (x := e.2.1) (y := e.1) kP_inj (hu64 hr) h1 acc_fr (de_var 0 rfl) (de_var 2 rfl)) ?_ sc_way_of.nd
      refine dss_append (a := a) (ds := done.map eStep) (d := eStep e) 0 (de_var 3 rfl) (de_tup (ds := [natD e.1, ePart e.2.1, optP e.2.2]) (da_cons (de_var 4 rfl) (da_cons (de_var 2 rfl) (da_cons (de_getK (ve := optP) (x := e.1) (y := e.2.2) kI_inj (hu64 hr) h2 acc_fr (de_var 1 rfl) (de_var 4 rfl)) da_nil)))) rfl (by rw [List.length_map]; exact hdl) ?_ rfl rfl
        (pe_bm PySem.F.plainAttrs_list PySem.F.slot_list_append PySem.F.type_list_append mt_append (de_var 3 rfl) (pa_cons (de_tup (ds := [natD e.1, ePart e.2.1, optP e.2.2]) (da_cons (de_var 4 rfl) (da_cons (de_var 2 rfl) (da_cons (de_getK (ve := optP) (x := e.1) (y := e.2.2) kI_inj (hu64 hr) h2 acc_fr (de_var 1 rfl) (de_var 4 rfl)) da_nil)))) pa_nil))
      refine dss_set (i := 2) (A := isD (optP e.2.2)) (hp1 := [⟨a, oL (done.map eStep ++ [eStep e])⟩]) (de_getK (ve := optP) (x := e.1) (y := e.2.2) kI_inj (hu64 hr) h2 acc_fr (de_var 1 rfl) (de_var 4 rfl)) (dss_nil (wk_mask [true, true, true, true, false] _) ⟨rest'.length, by simp, done ++ [e], rest', ⟨by rw [hdr]; simp, rfl, fun q hq => ?_⟩, ?_, by rw [List.map_append]; rfl⟩) sc_way_of.nd
      · cases q2 : e.2.2 with
        | none => rw [h3 q2] at hq; cases hq
        | some q' =>
          have hp' := h4 q' q2
          obtain ⟨e2, w2, hw2, he2, _⟩ := hp'.first
          rw [hw2] at hq ⊢
          cases hq
          rw [he2, ← hw2]
          exact hp'
      · have : optP e.2.2 = optP (nextP rest') := by
          cases q2 : e.2.2 with
          | none => rw [h3 q2]; rfl
          | some q' =>
            obtain ⟨e2, w2, hw2, he2, _⟩ := (h4 q' q2).first
            rw [hw2]
            show _ = optP (some e2.2.1)
            rw [he2]
        rw [this]; rfl
  · cases rest with
    | cons e rest' => cases hb
    | nil =>
      rw [List.append_nil] at hdr
      subst hdr
      refine dss_freeze (hp := []) (hp' := []) 3 rfl ha ?_
      exact dss_ret (de_var 3 rfl) fun v B h => ⟨rfl, h⟩
end
end PK
end
section
set_option Elab.async false
set_option linter.all false
set_option maxRecDepth 100000
set_option maxHeartbeats 8000000
namespace PK
open PySem PySem.Spec PyProof.Rows L2
open PM (Want manyP manyF ls letsL aget aput keys dg Spr SprEnd Cl Gone Path Way Inv Closed applyG stepG)
open PySem.W (AllAlike Sortable dataLe)

theorem dx_call0 {X : Cx} {sl : SL} {hp : List Cell} {e : Expr} {es : List Expr} {pos p : Pos} {x : Str} {k j : Nat} {γ : Type} {As : γ → List MA} {hpf : γ → List Cell} {pre : γ → Prop} {post : γ → RtP} (c : C8.Cal X.prog X.w X.K X.mg X.base k x (spOf As hpf pre post) []) (hr : Room j X.A) (hk : k ≤ j) (y : γ) (hy : pre y) (ha : DA X (e :: es) sl hp (As y) (hpf y))
    (hg : Gl X x := by rfl) (hdb : (x == ("__debug__" : Str)) = false := by decide) (he : starEach (e :: es) X.env = (false, eval e X.env) :: starEach es X.env := by rfl) (hpl : (backTo pos (starEach es X.env)).any (·.1) = false := by rfl) :
    DX X (.Call (.Name x p) (e :: es) [] pos) sl hp (post y) := by
  refine dx_imp (dx_call (fr := []) c hr hk y hy (by rw [List.append_nil]; exact ha) hg hdb he hpl) fun v B hp' ⟨hq, h1, h2⟩ => ?_
  rw [List.append_nil] at h2
  subst h2
  exact h1
def gsOf (n : Nat) (G : Nat → DP) : List DP := (List.range n).map G
theorem gsOf_len (n : Nat) (G : Nat → DP) : (gsOf n G).length = n := by unfold gsOf; rw [List.length_map, List.length_range]
theorem gsOf_get {n : Nat} {G : Nat → DP} {i : Nat} (h : i < n) : (gsOf n G)[i]? = some (G i) := by
  unfold gsOf
  rw [List.getElem?_map, List.getElem?_range h]; rfl
theorem Gg_of {n : Nat} {G : Nat → DP} {i : Nat} (h : i < n) : Gg (gsOf n G) i = G i := by
  unfold Gg
  rw [List.getD_eq_getElem?_getD, gsOf_get h]; rfl
theorem gs_eq {gs : List DP} {n : Nat} (h : gs.length = n) : gsOf n (Gg gs) = gs := by
  apply List.ext_getElem?
  intro i
  by_cases hi : i < n
  · rw [gsOf_get hi]
    exact (getD_get (by omega)).symm
  · rw [List.getElem?_eq_none (by rw [gsOf_len]; omega), List.getElem?_eq_none (by omega)]
theorem gsOf_set {n : Nat} {G : Nat → DP} {i : Nat} {d : DP} : (gsOf n G).set i d = gsOf n (fun j => if j = i then d else G j) := by
  apply List.ext_getElem?
  intro j
  by_cases hj : j < n
  · rw [gsOf_get hj]
    by_cases e : i = j
    · subst e
      rw [List.getElem?_set_self (by rw [gsOf_len]; exact hj), if_pos rfl]
    · rw [List.getElem?_set_ne e, gsOf_get hj, if_neg (fun z => e z.symm)]
  · rw [List.getElem?_eq_none (by rw [List.length_set, gsOf_len]; omega), List.getElem?_eq_none (by rw [gsOf_len]; omega)]
theorem gcells_set {a : Addr} {d : DP} : ∀ {as : List Addr} {gs : List DP} {i : Nat}, as[i]? = some a → (gcells as gs).set i ⟨a, oT kP .int d⟩ = gcells as (gs.set i d)
  | [], _, _, h => by simp at h
  | b :: as, [], i, h => by simp [gcells]
  | b :: as, g :: gs, 0, h => by
    have e : b = a := by simpa using h
    subst e; rfl
  | b :: as, g :: gs, i + 1, h => by
    have ih := gcells_set (d := d) (as := as) (gs := gs) (i := i) (by simpa using h)
    show _ :: (gcells as gs).set i _ = _ :: gcells as (gs.set i d)
    rw [ih]
/-- what stands at a lead -/
structure LdOk (y : SpIn) (lk : Nat → Int) : Prop where
  sp : SpOk y
  inv : Inv y.rows (Wf y.ws) y.ws.length (Gg y.gs) y.l lk
  ll : y.l.length ≤ 12
def SpIn.to (y : SpIn) (gs : List DP) (l : DP) : SpIn := { y with gs := gs, l := l }
def LedR (y : SpIn) (lk : Nat → Int) (q : List DP × DP × Int) : Prop :=
  (q.2.2 = 0 ∧ q.1 = y.gs ∧ q.2.1 = y.l ∧ ∃ T : Nat → Bool, T y.k = true ∧ Closed y.rows (Wf y.ws) y.ws.length (Gg y.gs) y.l fun i => T i = true) ∨
  (0 < q.2.2 ∧ LdOk (y.to q.1 q.2.1) (fun i => if i = y.k then lk y.k - q.2.2 else lk i) ∧ ∀ T : Nat → Prop, Closed y.rows (Wf y.ws) y.ws.length (Gg y.gs) y.l T → Closed y.rows (Wf y.ws) y.ws.length (Gg q.1) q.2.1 T)
abbrev spLead (K : PySem.W.Frag) : Sp := spOf (γ := SpIn × (Nat → Int)) (fun y => [isHeap (HC K) y.1.rows, isD (eWants y.1.ws), gA y.1.as, isV (.ref y.1.aL), isI (y.1.k : Int), isI (y.2 y.1.k)]) (fun y => y.1.cells) (fun y => LdOk y.1 y.2 ∧ 0 < y.2 y.1.k)
  (fun y v B hp' => ∃ q : List DP × DP × Int, LedR y.1 y.2 q ∧ hp' = (y.1.to q.1 q.2.1).cells ∧ (tupA [isI q.2.2, anyA]).p v B)
theorem stepG_pos (m : Int) (g : Nat → DP) (e : Nat × (Str × Str) × Option (Str × Str)) : stepG m g e e.1 = match e.2.2 with
    | none => aput (g e.1) e.2.1 (dg (g e.1) e.2.1 + m)
    | some q => aput (aput (g e.1) e.2.1 (dg (g e.1) e.2.1 + m)) q (dg (aput (g e.1) e.2.1 (dg (g e.1) e.2.1 + m)) q - m) := by
  unfold stepG
  rw [if_pos rfl]
  cases e.2.2 <;> rfl
def givenUp (g : Nat → DP) (e : Nat × (Str × Str) × Option (Str × Str)) : Int := match e.2.2 with
  | none => 0
  | some q => dg (g e.1) q
section
variable {P : Program} {w : World} {K : PySem.W.Frag} {mg : Str → Option Value} {base : Heap} {f : Addr} {fd : FuncData}
theorem ok_lead (Y : Bi mg) (c1 : C8.Cal P w K mg base 3 "spread" (spSpread K) []) (c2 : C8.Cal P w K mg base 1 "way_of" spWayOf []) (F : FnD K d_lead f fd) : FnOk P w K mg base CX0 4 f fd ["heap", "wants", "gifts", "left", "k", "most"] (spLead K) := by
  refine ok_ds F sc_lead _ _ _ _ (fun _ => rfl) fun y hy cdv A outer s H E hr => ?_
  obtain ⟨y, lk⟩ := y
  obtain ⟨ok, hpos⟩ := hy
  have ok : LdOk y lk := ok
  have hpos : 0 < lk y.k := hpos
  refine dss_unp (α := { q : SpRes // SprEnd y.rows (Wf y.ws) y.ws.length (Gg y.gs) y.l y.k q.1 q.2.1 q.2.2 }) (As := fun q => [isO (oT kP natD q.1.1), isO (oK kI optP q.1.2.1), isD (optP q.1.2.2)]) (Cs := fun _ => y.cells) (js := [6, 7, 8])
    (dx_call0 c1 hr (by omega) y ok.sp (da_cons (de_var 0 rfl) (da_cons (de_var 1 rfl) (da_cons (de_var 2 rfl) (da_cons (de_var 3 rfl) (da_cons (de_var 4 rfl) da_nil))))))
    (fun v B hp' ⟨h1, q, h2, h3⟩ => ⟨⟨q, h2.1⟩, h3, h1⟩) (fun q => dgA3 rfl (fun A => dg_name 6 sc_lead.nd rfl (Or.inl rfl)) (fun A => dg_name 7 sc_lead.nd rfl (Or.inl rfl)) (fun A => dg_name 8 sc_lead.nd rfl (Or.inl rfl))) ?_
  rintro ⟨⟨parts, holders, o⟩, hE⟩
  have hE : SprEnd y.rows (Wf y.ws) y.ws.length (Gg y.gs) y.l y.k parts holders o := hE
  refine dss_ifr (b := !o.isSome) (dt_eq (dt_cmp op_isN (re_isN (d := optP o)) (de_var 8 rfl) de_non) (by rw [optP_not])) (fun hb => ?_) (fun hb => ?_)
  · have ho : o = none := by cases o with
      | none => rfl
      | some p => cases hb
    refine dss_ret (de_tupA (As := [isI 0, anyA]) (da_cons de_int (da_cons (de_is (de_var 7 rfl) fun _ _ _ => trivial) da_nil))) fun v B h => ⟨(y.gs, y.l, 0), .inl ⟨rfl, rfl, rfl, fun i => (aget holders i).isSome, ?_, hE.none_ ho⟩, rfl, h⟩
    obtain ⟨r, spr⟩ := hE.spr
    show (aget holders y.k).isSome = true
    rw [spr.hk]; rfl
  · obtain ⟨p, rfl⟩ : ∃ p, o = some p := by cases o with
      | none => cases hb
      | some p => exact ⟨p, rfl⟩
    obtain ⟨r, spr⟩ := hE.spr
    obtain ⟨hps, hpl⟩ := hE.some_ p rfl
    obtain ⟨way, hw⟩ := spr.path (r p + 1) p (by omega) hps
    have hwl := hw.len spr
    have hn6 := ok.sp.ow.len
    refine dss_set (i := 9) (A := isD (.list (way.map eStep))) (hp1 := y.cells) (de_callP c2 (j := 3) hr (by omega) (parts, holders, p, way) ⟨hw, by show way.length ≤ 100; omega⟩ (da_cons (de_var 6 rfl) (da_cons (de_var 7 rfl) (da_cons (de_var 8 rfl) da_nil)))) ?_ sc_lead.nd
    have hlt := hw.lt spr
    have hgave := hw.gave spr
    have hcell : ∀ (G : Nat → DP) (j : Nat), j < y.ws.length → ∃ a, y.as[j]? = some a ∧ (gcells y.as (gsOf y.ws.length G))[j]? = some ⟨a, oT kP .int (G j)⟩ := fun G j hj => by
      have h1 : y.as[j]? = some (y.as[j]'(by rw [ok.sp.la]; exact hj)) := List.getElem?_eq_getElem _
      exact ⟨_, h1, gcells_at h1 (gsOf_get hj)⟩
    have hgs : gsOf y.ws.length (Gg y.gs) = y.gs := gs_eq ok.sp.lg
    have hcells : y.cells = ⟨y.aL, oT kP .int y.l⟩ :: gcells y.as (gsOf y.ws.length (Gg y.gs)) := by unfold SpIn.cells; rw [hgs]
    generalize hns : (([lk y.k, dg y.l p] : List Int) ++ (way.filter fun e => e.2.2.isSome).map (givenUp (Gg y.gs))) = ns
    have hne : ns ≠ [] := by rw [← hns]; simp
    have hm1 : lmin ns ≤ lk y.k := lmin_le (by rw [← hns]; simp)
    have hm2 : lmin ns ≤ dg y.l p := lmin_le (by rw [← hns]; simp)
    have hm3 : ∀ e ∈ way, ∀ q, e.2.2 = some q → lmin ns ≤ dg (Gg y.gs e.1) q := fun e he q hq => lmin_le (by
      rw [← hns]
      refine List.mem_append_right _ (List.mem_map.mpr ⟨e, List.mem_filter.mpr ⟨he, by rw [hq]; rfl⟩, ?_⟩)
      unfold givenUp; rw [hq])
    have hm0 : 0 < lmin ns := by
      have := lmin_mem hne
      rw [← hns] at this ⊢
      rcases List.mem_append.mp this with h | h
      · rcases List.mem_cons.mp h with h | h
        · rw [h]; exact hpos
        · rw [List.mem_singleton.mp h]; exact hpl
      · obtain ⟨e, he, h⟩ := List.mem_map.mp h
        obtain ⟨he1, he2⟩ := List.mem_filter.mp he
        rw [← h]
        unfold givenUp
        cases q : e.2.2 with
        | none => rw [q] at he2; cases he2
        | some u => exact hgave e he1 u q
    refine dss_set (i := 10) (A := isI (lmin ns)) (hp1 := y.cells) (de_callB (cr_min rfl) (rc_min hne) Y.min bt_min (da_cons (de_eq (de_op op_cat (re_catL (ds := [.int (lk y.k), .int (dg y.l p)]) (es := (way.filter fun e => e.2.2.isSome).map fun e => .int (givenUp (Gg y.gs) e)) ?_) (hp1 := y.cells) (de_lst (da_cons (de_var 5 rfl) (da_cons (hp1 := y.cells) ?_ da_nil)))
      (de_lcD (xs := way) [("one", 11), ("got", 12), ("given_up", 13)] [11, 12, 13] (fun e => [isD (natD e.1), isD (ePart e.2.1), isD (optP e.2.2)]) (fun e => e.2.2.isSome) (fun e => .int (givenUp (Gg y.gs) e)) sc_lead.nd (di_list (f := eStep) (de_var 9 rfl)) (by show blkC N_lead (defScope s_lead) _ _ = true; decide +kernel)
        (fun e _ s H C cl fp => dg_tup3 rfl (fun A => dg_name 11 sc_lead.nd rfl (Or.inl rfl)) (fun A => dg_name 12 sc_lead.nd rfl (Or.inl rfl)) (fun A => dg_name 13 sc_lead.nd rfl (Or.inl rfl)))
        (fun e _ s H C cl fp => dts_one (dt_eq (dt_cmp op_notN (re_notN (d := optP e.2.2)) (de_var 13 rfl) de_non) (optP_not _))) (fun e he ht s H C cl fp => ?_) (Nat.le_trans hwl (Nat.le_trans hn6 (by decide))))) ?_) da_nil)) ?_ sc_lead.nd
    · have h1 : ((way.filter fun e => e.2.2.isSome).map fun e => PyData.int (givenUp (Gg y.gs) e)).length ≤ 6 := by
        rw [List.length_map]
        exact Nat.le_trans (List.length_filter_le ..) (by omega)
      exact Nat.le_trans (Nat.add_le_add_left h1 2) (by decide)
    · exact de_getT (ve := .int) (x := p) (y := dg y.l p) kP_inj (hu64 hr) (PM.dg_of_some (by rw [PM.dg_pos_some hpl]; rfl)) (acc_own 0 rfl) (de_var 3 rfl) (de_var 8 rfl)
    · obtain ⟨a, ha1, ha2⟩ := hcell (Gg y.gs) e.1 (hlt e he)
      cases q : e.2.2 with
      | none => rw [q] at ht; cases ht
      | some u =>
        have hg := hgave e he u q
        have hv : givenUp (Gg y.gs) e = dg (Gg y.gs e.1) u := by unfold givenUp; rw [q]
        rw [hv]
        refine de_getT (ve := .int) (A := isV (.ref a)) (d := Gg y.gs e.1) (x := u) (y := dg (Gg y.gs e.1) u) kP_inj (hu64 hr) (PM.dg_pos_some hg) (acc_own (e.1 + 1) ?_) (de_ixLA (As := y.as.map fun a => isV (.ref a)) (j := e.1) ?_ (de_var 2 rfl) (de_var 11 rfl)) (de_var 13 rfl)
        · rw [hcells]; exact ha2
        · rw [List.getElem?_map, ha1]; rfl
    · rw [← hns, List.map_append, List.map_map]; rfl
    -- the parts left
    have hps2 : (aget y.l p).isSome = true := by rw [PM.dg_pos_some hpl]; rfl
    have hll : (aput y.l p (dg y.l p - lmin ns)).length ≤ 12 := by rw [PM.length_aput_old hps2]; exact ok.ll
    refine dss_putT (x := p) (y := dg y.l p - lmin ns) (hp1 := y.cells) 0 kP_inj (hu64 hr) (de_op op_sub re_I0 (de_getT (ve := .int) (x := p) (y := dg y.l p) kP_inj (hu64 hr) (PM.dg_pos_some hpl) (acc_own 0 rfl) (de_var 3 rfl) (de_var 8 rfl)) (de_var 10 rfl)) (de_var 3 rfl) (de_var 8 rfl) rfl (by have := ok.ll; omega) ?_
    -- the way
    refine dss_for (xs := way) (di_list (f := eStep) (hp1 := ⟨y.aL, oT kP .int (aput y.l p (dg y.l p - lmin ns))⟩ :: gcells y.as y.gs) (de_var 9 rfl)) [11, 12, 13] (fun e => [isD (natD e.1), isD (ePart e.2.1), isD (optP e.2.2)]) (fun e _ => dg_tup3 rfl (fun A => dg_name 11 sc_lead.nd rfl (Or.inl rfl)) (fun A => dg_name 12 sc_lead.nd rfl (Or.inl rfl)) (fun A => dg_name 13 sc_lead.nd rfl (Or.inl rfl)))
      (fun i s h => s = [some (isHeap (HC K) y.rows), some (isD (eWants y.ws)), some (gA y.as), some (isV (.ref y.aL)), some (isI (y.k : Int)), some (isI (lk y.k)), some (isO (oT kP natD parts)), some (isO (oK kI optP holders)), some (isD (optP (some p))), some (isD (.list (way.map eStep))), some (isI (lmin ns)), none, none, none] ∧ h = ⟨y.aL, oT kP .int (aput y.l p (dg y.l p - lmin ns))⟩ :: gcells y.as (gsOf y.ws.length (applyG (lmin ns) (Gg y.gs) (way.take i))))
      ?_ ?_ ?_
    · refine ⟨rfl, ?_⟩
      rw [List.take_zero]
      show _ = _ :: gcells y.as (gsOf y.ws.length (Gg y.gs))
      rw [hgs]
    · rintro i e s h hx ⟨rfl, rfl⟩
      have he := List.mem_of_getElem? hx
      have hi : i < way.length := (List.getElem?_eq_some_iff.mp hx).1
      generalize hG : applyG (lmin ns) (Gg y.gs) (way.take i) = G
      obtain ⟨a, ha1, ha2⟩ := hcell G e.1 (hlt e he)
      have hlenG : (G e.1).length ≤ 24 := by
        have h1 := PM.applyG_len (lmin ns) e.1 (way.take i) (Gg y.gs)
        rw [hG] at h1
        have h2 : (way.take i).length ≤ i := by rw [List.length_take]; omega
        have h3 : (Gg y.gs e.1).length ≤ 12 := by
          have h4 := PM.len_sub (keys (Gg y.gs e.1)) (letsL y.rows (Wf y.ws e.1)) (ok.inv.gn e.1 (hlt e he)) fun x hx => by
            obtain ⟨kv, hkv, rfl⟩ := List.mem_map.mp hx
            exact ok.sp.lets e.1 (hlt e he) kv hkv
          have h5 := lets_len ok.sp.ok (ok.sp.ow.w _ (wf_mem (hlt e he)))
          unfold keys at h4
          rw [List.length_map] at h4
          omega
        omega
      refine dss_putT (x := e.2.1) (y := dg (G e.1) e.2.1 + lmin ns) (hp1 := ⟨y.aL, oT kP .int (aput y.l p (dg y.l p - lmin ns))⟩ :: gcells y.as (gsOf y.ws.length G)) (e.1 + 1) kP_inj (hu64 hr) (de_op op_add re_I0 (de_get2T (A := isV (.ref a)) (d := G e.1) (x := e.2.1) (z := 0) kP_inj (hu64 hr) (acc_own (e.1 + 1) ha2) (de_ixLA (As := y.as.map fun a => isV (.ref a)) (j := e.1) ?_ (de_var 2 rfl) (de_var 11 rfl)) (de_var 12 rfl) de_int) (de_var 10 rfl)) (de_ixLA (As := y.as.map fun a => isV (.ref a)) (j := e.1) ?_ (de_var 2 rfl) (de_var 11 rfl)) (de_var 12 rfl) ha2 (by omega) ?_
      · rw [List.getElem?_map, ha1]; rfl
      · rw [List.getElem?_map, ha1]; rfl
      show DSs _ _ _ _ (_ :: (gcells y.as (gsOf y.ws.length G)).set e.1 _) _ _
      rw [gcells_set ha1, gsOf_set]
      generalize hd1 : aput (G e.1) e.2.1 (dg (G e.1) e.2.1 + lmin ns) = d1
      have hstep : stepG (lmin ns) G e = fun j => if j = e.1 then (match e.2.2 with | none => d1 | some q => aput d1 q (dg d1 q - lmin ns)) else G j := by
        funext j
        rw [← hd1]
        by_cases hj : j = e.1
        · subst hj
          rw [if_pos rfl, stepG_pos]
          cases e.2.2 <;> rfl
        · rw [if_neg hj, PM.stepG_ne hj]
      refine dss_when (b := e.2.2.isSome) (M := fun s h => s = [some (isHeap (HC K) y.rows), some (isD (eWants y.ws)), some (gA y.as), some (isV (.ref y.aL)), some (isI (y.k : Int)), some (isI (lk y.k)), some (isO (oT kP natD parts)), some (isO (oK kI optP holders)), some (isD (optP (some p))), some (isD (.list (way.map eStep))), some (isI (lmin ns)), some (isD (natD e.1)), some (isD (ePart e.2.1)), some (isD (optP e.2.2))] ∧ h = ⟨y.aL, oT kP .int (aput y.l p (dg y.l p - lmin ns))⟩ :: gcells y.as (gsOf y.ws.length (stepG (lmin ns) G e)))
        (dt_eq (dt_cmp op_notN (re_notN (d := optP e.2.2)) (de_var 13 rfl) de_non) (optP_not _)) (fun hb2 => ?_) (fun hb2 => ?_) fun s h ⟨e1, e2⟩ => ?_
      · cases q : e.2.2 with
        | none => rw [q] at hb2; cases hb2
        | some u =>
          obtain ⟨a', hb1, hb2'⟩ := hcell (fun j => if j = e.1 then d1 else G j) e.1 (hlt e he)
          have hb2' : (gcells y.as (gsOf y.ws.length (fun j => if j = e.1 then d1 else G j)))[e.1]? = some ⟨a', oT kP .int d1⟩ := by
            rw [if_pos rfl] at hb2'; exact hb2'
          have hsome : (aget d1 u).isSome = true := by
            rw [← hd1]
            refine PM.some_put ?_
            rw [← hG]
            refine PM.applyG_some ?_
            rw [PM.dg_pos_some (hgave e he u q)]; rfl
          have h13 : optP (some u) = ePart u := rfl
          have hlen1 : d1.length ≤ 25 := by
            rw [← hd1]
            exact Nat.le_trans (PM.length_aput _ _ _) (by omega)
          refine dss_putT (x := u) (y := dg d1 u - lmin ns) (d := d1) (hp1 := ⟨y.aL, oT kP .int (aput y.l p (dg y.l p - lmin ns))⟩ :: gcells y.as (gsOf y.ws.length (fun j => if j = e.1 then d1 else G j))) (e.1 + 1) kP_inj (hu64 hr) (de_op op_sub re_I0 (de_getT (ve := .int) (A := isV (.ref a')) (d := d1) (x := u) (y := dg d1 u) kP_inj (hu64 hr) (PM.dg_of_some hsome) (acc_own (e.1 + 1) hb2') (de_ixLA (As := y.as.map fun a => isV (.ref a)) (j := e.1) ?_ (de_var 2 rfl) (de_var 11 rfl)) (de_eq (de_var 13 rfl) h13)) (de_var 10 rfl)) (de_ixLA (As := y.as.map fun a => isV (.ref a)) (j := e.1) ?_ (de_var 2 rfl) (de_var 11 rfl)) (de_eq (de_var 13 rfl) h13) hb2' (by omega) (dss_nil (Wk.refl _) ⟨?_, ?_⟩)
          · rw [List.getElem?_map, hb1]; rfl
          · rw [List.getElem?_map, hb1]; rfl
          · rfl
          · show _ :: (gcells y.as (gsOf y.ws.length _)).set e.1 _ = _
            rw [gcells_set hb1, gsOf_set, hstep, q]
            congr 2
            unfold gsOf
            refine List.map_congr_left fun j _ => ?_
            by_cases hj : j = e.1
            · rw [if_pos hj, if_pos hj]
            · rw [if_neg hj, if_neg hj, if_neg hj]
      · cases q : e.2.2 with
        | some u => rw [q] at hb2; cases hb2
        | none =>
          refine ⟨by rw [← q]; rfl, ?_⟩
          rw [hstep, q]
      · subst e1 e2
        refine dss_nil (wk_mask [true, true, true, true, true, true, true, true, true, true, true, false, false, false] _) ⟨rfl, ?_⟩
        unfold applyG
        rw [foldl_take hx]
        have : (way.take i).foldl (stepG (lmin ns)) (Gg y.gs) = G := hG
        rw [this]
    · rintro s h ⟨rfl, rfl⟩
      rw [List.take_length]
      have hinv := PM.augment ok.inv spr (Int.le_of_lt hm0) hw hm2 hm1 hm3
      have hcg : ∀ i, i < y.ws.length → Gg (gsOf y.ws.length (applyG (lmin ns) (Gg y.gs) way)) i = applyG (lmin ns) (Gg y.gs) way i := fun i hi => Gg_of hi
      refine dss_ret (de_tupA (As := [isI (lmin ns), anyA]) (da_cons (de_var 10 rfl) (da_cons (de_is (de_var 7 rfl) fun _ _ _ => trivial) da_nil))) fun v B h => ⟨(gsOf y.ws.length (applyG (lmin ns) (Gg y.gs) way), aput y.l p (dg y.l p - lmin ns), lmin ns), .inr ⟨hm0, ⟨⟨ok.sp.ok, ok.sp.ow, ok.sp.la, gsOf_len _ _, fun i hi kv hkv => ?_, ok.sp.hk⟩, hinv.congr hcg, hll⟩, fun T C => (PM.closed_stays ok.inv spr (Int.le_of_lt hm0) hw hpl hm3 C).congr hcg⟩, rfl, h⟩
      have hkv' : kv ∈ Gg (gsOf y.ws.length (applyG (lmin ns) (Gg y.gs) way)) i := hkv
      rw [hcg i hi] at hkv'
      exact hinv.lets i hi kv hkv'
end
end PK
end
section
set_option Elab.async false
set_option linter.all false
set_option maxRecDepth 100000
set_option maxHeartbeats 2000000
namespace PK
open PySem PySem.Spec PyProof.Rows L2
section
variable {X : Cx} {sl : SL} {hp hp1 hp2 : List Cell} {pos pos' spos py : Pos} {elt tg iter : Expr} {ifs : List Expr} {scope : Scope}
def tDOwn (sl : SL) (hp : List Cell) (ds : List PyData) : TE := fun σ H Q => ∃ Z B, Sat Z B H hp ∧ SatS B σ sl ∧ ∀ a B' H', a ∉ Z.own0 → Same B B' → Sat Z B' H' (hp ++ [⟨a, oL ds⟩]) → Q (.ref a) H'
theorem Sat.snocIs {Z : Fx} {B H : Hp} {hp : List Cell} {a : Addr} {mo mo' : MO} (S : Sat Z B H (hp ++ [⟨a, mo⟩])) (h : ∀ o, mo.p o B → mo'.p o B) : Sat Z B H (hp ++ [⟨a, mo'⟩]) := by
  have hc : (hp ++ [(⟨a, mo⟩ : Cell)])[hp.length]? = some ⟨a, mo⟩ := by simp
  have := S.retell hc (mo := mo') fun o _ q => h o q
  rw [List.set_append_right _ _ (Nat.le_refl _)] at this
  simpa using this
theorem lc_mainO {α : Type} {xs : List α} {I : α → MA} {wi : TI} {F : List (Addr × HO)} (hF : HdC hp1 F) (hw : ∀ σ H R, tDI sl hp xs I hp1 F σ H R → wi σ H R) {vs js : List Nat} {As : α → List MA} {t : α → Bool} {f : α → PyData} (hjs : ∀ j ∈ js, j ∈ vs) (hz : xs.length ≤ sizeLine) :
    ∀ σ H Q, (∃ Z B, Sat Z B H hp ∧ SatS B σ sl ∧ ∀ a B' H', a ∉ Z.own0 → Same B B' → Sat Z B' H' (hp1 ++ [⟨a, oL ((xs.filter t).map f)⟩]) → Q (.ref a) H') →
      tLc wi (fun v σ H Q => ∃ x, x ∈ xs ∧ tDG (I x) js (As x) v σ H Q) (fun σ H Q => ∃ x, x ∈ xs ∧ ∃ fr, tDT (setSL (wipeS sl vs) js (As x)) (hp1 ++ fr) (t x) (hp1 ++ fr) σ H Q)
        (fun σ H Q => ∃ x, (x ∈ xs ∧ t x = true) ∧ ∃ fr, tDE (setSL (wipeS sl vs) js (As x)) (hp1 ++ fr) (isD (f x)) (hp1 ++ fr) σ H Q) vs σ H Q := by
  intro σ H Q ⟨Z, B, S, T, k⟩
  refine hw σ H _ ⟨Z, B, S, T, fun B1 H1 J m1 S1 W => fun D hD => ?_⟩
  refine ⟨fun i m Hc => m = xs.length - i ∧ i ≤ xs.length ∧ ∃ Bc acc, Same B1 Bc ∧ Sat Z Bc Hc (hp1 ++ [⟨D, oRaw (.lst acc)⟩]) ∧ RpL Bc acc (((xs.take i).filter t).map f), ⟨xs.length, by simp, Nat.zero_le _, ?_⟩, ?_⟩
  · obtain ⟨S2, _⟩ := S1.allocOwn hD (o := .lst []) (mo := oRaw (.lst [])) rfl
    exact ⟨B1, [], Same.refl B1, S2, by simp; exact .nil⟩
  · rintro i m Hc ⟨rfl, hi, Bc, acc, mc, Sc, ac⟩
    by_cases hlt : i < xs.length
    · refine .inr ⟨W.goes i Hc hlt (mc.trans Sc.bh) (hF _ _ _ _ Sc), fun H' => i + 1 ≤ xs.length ∧ ∃ Bc acc, Same B1 Bc ∧ Sat Z Bc H' (hp1 ++ [⟨D, oRaw (.lst acc)⟩]) ∧ RpL Bc acc (((xs.take (i + 1)).filter t).map f),
        fun H' q => ⟨xs.length - (i + 1), by omega, rfl, q.1, q.2⟩, fun v H' y => ?_⟩
      have hx : xs[i]? = some xs[i] := List.getElem?_eq_getElem hlt
      generalize hxe : xs[i] = x at hx
      have hmem : x ∈ xs := List.mem_of_getElem? hx
      have htk : xs.take (i + 1) = xs.take i ++ [x] := by
        rw [List.take_add_one, hx] <;> rfl
      obtain ⟨Bd, Sd, md, qd⟩ := W.step Sc mc hx y
      refine ⟨x, hmem, Bd, Sd.bh, qd, fun us hu => ⟨(wipe_setAll hjs).trans (wipe_sub fun _ h => h), x, hmem, [⟨D, oRaw (.lst acc)⟩], Z, Bd, Sd, ?_, fun Be He me Se => ?_⟩⟩
      · exact (SatS.wipe (T.mono (m1.trans (mc.trans md))) vs).setAll hu
      · cases ht : t x with
        | true =>
          refine iteT ⟨x, ⟨hmem, ht⟩, [⟨D, oRaw (.lst acc)⟩], Z, Be, Se, ((SatS.wipe (T.mono (m1.trans (mc.trans md))) vs).setAll hu).mono me, fun w Bf Hf mf Sf qf => ?_⟩
          have hcell : (hp1 ++ [(⟨D, oRaw (.lst acc)⟩ : Cell)])[hp1.length]? = some ⟨D, oRaw (.lst acc)⟩ := by simp
          obtain ⟨o, ho, hoo⟩ := Sf.at hcell
          have hoo' : o = .lst acc := hoo
          subst hoo'
          have hlen : acc.length ≤ i := by
            rw [ac.length, List.length_map]
            have := List.length_filter_le t (xs.take i)
            rw [List.length_take] at this
            omega
          refine ⟨acc, ho, by omega, by omega, Bf, acc ++ [w], mc.trans (md.trans (me.trans mf)), ?_, ?_⟩
          · have S7 := Sf.write hcell (o := .lst (acc ++ [w])) (mo := oRaw (.lst (acc ++ [w]))) rfl
            have e : (hp1 ++ [(⟨D, oRaw (.lst acc)⟩ : Cell)]).set hp1.length ⟨D, oRaw (.lst (acc ++ [w]))⟩ = hp1 ++ [⟨D, oRaw (.lst (acc ++ [w]))⟩] := by
              rw [List.set_append_right _ _ (Nat.le_refl _)]; simp
            rw [e] at S7
            exact S7
          · rw [htk, List.filter_append, List.map_append]
            have e2 : [x].filter t = [x] := by simp [List.filter_cons, ht]
            rw [e2]
            exact (ac.mono (md.trans (me.trans mf))).append (.cons qf .nil)
        | false =>
          refine iteF ⟨by omega, Be, acc, mc.trans (md.trans me), Se, ?_⟩
          rw [htk, List.filter_append, List.map_append]
          have e2 : [x].filter t = [] := by simp [List.filter_cons, ht]
          rw [e2, List.map_nil, List.append_nil]
          exact ac.mono (md.trans me)
    · have e : i = xs.length := by omega
      subst e
      refine .inl ⟨W.stops Hc (mc.trans Sc.bh) (hF _ _ _ _ Sc), ?_⟩
      have hDn : D ∉ Z.own0 := fun z => Sc.on D z (S1.free0 hD)
      rw [List.take_length] at ac
      exact k D _ _ hDn (m1.trans mc) (Sc.snocIs fun o ho => ⟨acc, ho, ac⟩)
theorem dss_setTo' {i : Nat} {st : Stmt} {te : TE} {own0 : List Addr} {rest : List Stmt} {Nx : NxP} {Rt : RtP} {γ : Type} {As : γ → MA} {Cs : γ → List Cell} {φ : γ → Prop} (hst : PS X st (tAsg te (gName i)))
    (ht : ∀ σ H Q, (∃ Z B, Z.own0 = own0 ∧ Sat Z B H hp ∧ SatS B σ sl ∧ ∀ x v B' H', φ x → Same B B' → Sat Z B' H' (Cs x) → (As x).p v B' → Q v H') → te σ H Q)
    (hr : ∀ x, φ x → DSs X own0 rest (sl.set i (some (As x))) (Cs x) Nx Rt) : DSs X own0 (st :: rest) sl hp Nx Rt :=
  pss_imp (pss_cons hst (pss_ex fun x => pss_hyp (hr x))) fun D σ H ⟨Z, B, z, S, T, k, r⟩ => ht σ H _ ⟨Z, B, z, S, T, fun x v B1 H1 hx m1 S1 q1 =>
    ⟨x, hx, Z, B1, z, S1, (T.mono m1).set q1 i, fun σ' B' H' s h m => k σ' B' H' s h (m1.trans m), fun v B' H' h m => r v B' H' h (m1.trans m)⟩⟩
/-- x = [..], x owned -/
theorem dss_lcO {α : Type} {xs : List α} {I : α → MA} {i : Nat} {x : Str} {elt : Expr} {ifs : List Expr} {scope : Scope} {spos : Pos} {own0 : List Addr} {rest : List Stmt} {Nx : NxP} {Rt : RtP} (own : List (Str × Nat)) (js : List Nat) (As : α → List MA) (t : α → Bool) (f : α → PyData) (hN : X.N.Nodup) {F : List (Addr × HO)} (hi : DIF X tg iter sl hp xs I hp1 F) (ok : blkC X.N X.env.scope scope own = true)
    (hg : ∀ x, x ∈ xs → ∀ s H C cl fp, PG (X.blk s H scope (compEnvC scope cl C X.env) fp) tg (tDG (I x) js (As x)))
    (ht : ∀ x, x ∈ xs → ∀ s H C cl fp, DTs (X.blk s H scope (compEnvC scope cl C X.env) fp) ifs (setSL (wipeS sl (own.map (·.2))) js (As x)) hp1 (t x))
    (he : ∀ x, x ∈ xs → t x = true → ∀ s H C cl fp, DE (X.blk s H scope (compEnvC scope cl C X.env) fp) elt (setSL (wipeS sl (own.map (·.2))) js (As x)) hp1 (isD (f x)) hp1) (hz : xs.length ≤ sizeLine)
    (hr : ∀ a, a ∉ own0 → DSs X own0 rest (sl.set i (some (isV (.ref a)))) (hp1 ++ [⟨a, oL ((xs.filter t).map f)⟩]) Nx Rt)
    (hjs : ∀ j ∈ js, j ∈ own.map (·.2) := by decide) (hy : X.N[i]? = some x := by rfl) (hyl : X.env.scope.names.lookup x = some .local := by rfl) (hsw : swapsWith (.ListComp elt [⟨tg, iter, ifs, 0⟩] scope pos) (some (.Name x pos')) spos.line X.env = pure true := by rfl) (hc : X.calm = true := by rfl) (hs : ∀ x, foldedSetIterable iter X.env x = pure x := by intro _; rfl) (hF : HdC hp1 F := by exact HdC.nil) :
    DSs X own0 (.Assign [.Name x pos'] (.ListComp elt [⟨tg, iter, ifs, 0⟩] scope pos) spos :: rest) sl hp Nx Rt := by
  obtain ⟨wi, h1, h2⟩ := hi.ex
  refine dss_setTo' (φ := fun a => a ∉ own0) (As := fun a => isV (.ref a)) (Cs := fun a => hp1 ++ [⟨a, oL ((xs.filter t).map f)⟩]) (te := tLc wi (fun v σ H Q => ∃ x, x ∈ xs ∧ tDG (I x) js (As x) v σ H Q) (fun σ H Q => ∃ x, x ∈ xs ∧ ∃ fr, tDT (setSL (wipeS sl (own.map (·.2))) js (As x)) (hp1 ++ fr) (t x) (hp1 ++ fr) σ H Q)
    (fun σ H Q => ∃ x, (x ∈ xs ∧ t x = true) ∧ ∃ fr, tDE (setSL (wipeS sl (own.map (·.2))) js (As x)) (hp1 ++ fr) (isD (f x)) (hp1 ++ fr) σ H Q) (own.map (·.2))) (ps_setLc hc hN hy hyl hsw h1 (blkOk_by ok) ?s1 ?s2 ?s3 hs) (fun σ H Q ⟨Z, B, z, S, T, k⟩ => lc_mainO hF h2 hjs hz σ H Q ⟨Z, B, S, T, fun a B' H' ha m S' => k a (.ref a) B' H' (by rw [← z]; exact ha) m S' rfl⟩) hr
  · intro s H C cl fp
    refine pg_ex fun x => ⟨fun pins s' σ H' v u Q I' r ⟨hx, w⟩ => (hg x hx s H C cl fp).run pins s' σ H' v u Q I' r w⟩
  · intro s H C cl fp
    refine pts_ex fun x => pts_hyp fun hx => pts_ex fun fr => pts_imp (ht x hx s H C cl fp) fun _ _ _ => tDT_frame
  · intro s H C cl fp
    refine pe_ex fun x => pe_hyp fun hx => pe_ex fun fr => pe_imp (he x hx.1 hx.2 s H C cl fp) fun _ _ _ => tDE_frame

/-- x = [{} for .. in ..] -/
theorem lc_mainN {α : Type} {xs : List α} {I : α → MA} {wi : TI} {F : List (Addr × HO)} (hF : HdC hp1 F) (hw : ∀ σ H R, tDI sl hp xs I hp1 F σ H R → wi σ H R) {vs js : List Nat} {As : α → List MA} {o0 : HO} {mo0 : MO} (hmo : ∀ B, mo0.p o0 B) (hnt : noT o0 = true) (hjs : ∀ j ∈ js, j ∈ vs) (hz : xs.length ≤ sizeLine) :
    ∀ σ H Q, (∃ Z B, Sat Z B H hp ∧ SatS B σ sl ∧ ∀ (as : List Addr) a B' H', as.length = xs.length → (∀ b ∈ as, b ∉ Z.own0) → Same B B' → Sat Z B' H' (hp1 ++ as.map (⟨·, mo0⟩)) → B' a = some (.lst (as.map V.ref)) → Q (.ref a) H') →
      tLc wi (fun v σ H Q => ∃ x, x ∈ xs ∧ tDG (I x) js (As x) v σ H Q) (fun σ H Q => Q true H)
        (fun σ H Q => ∀ p, H p = none → Q (.ref p) (upd H p o0)) vs σ H Q := by
  intro σ H Q ⟨Z, B, S, T, k⟩
  refine hw σ H _ ⟨Z, B, S, T, fun B1 H1 J m1 S1 W => fun D hD => ?_⟩
  refine ⟨fun i m Hc => m = xs.length - i ∧ i ≤ xs.length ∧ ∃ Bc, ∃ as : List Addr, Same B1 Bc ∧ Sat Z Bc Hc (hp1 ++ ⟨D, oRaw (.lst (as.map V.ref))⟩ :: as.map (⟨·, mo0⟩)) ∧ as.length = i ∧ ∀ b ∈ as, b ∉ Z.own0, ⟨xs.length, by simp, Nat.zero_le _, ?_⟩, ?_⟩
  · obtain ⟨S2, _⟩ := S1.allocOwn hD (o := .lst []) (mo := oRaw (.lst [])) rfl
    exact ⟨B1, [], Same.refl B1, S2, rfl, fun b hb => by cases hb⟩
  · rintro i m Hc ⟨rfl, hi, Bc, as, mc, Sc, hal, hao⟩
    by_cases hlt : i < xs.length
    · refine .inr ⟨W.goes i Hc hlt (mc.trans Sc.bh) (hF _ _ _ _ Sc), fun H' => i + 1 ≤ xs.length ∧ ∃ Bc, ∃ as : List Addr, Same B1 Bc ∧ Sat Z Bc H' (hp1 ++ ⟨D, oRaw (.lst (as.map V.ref))⟩ :: as.map (⟨·, mo0⟩)) ∧ as.length = i + 1 ∧ ∀ b ∈ as, b ∉ Z.own0,
        fun H' q => ⟨xs.length - (i + 1), by omega, rfl, q.1, q.2⟩, fun v H' y => ?_⟩
      have hx : xs[i]? = some xs[i] := List.getElem?_eq_getElem hlt
      generalize hxe : xs[i] = x at hx
      have hmem : x ∈ xs := List.mem_of_getElem? hx
      obtain ⟨Bd, Sd, md, qd⟩ := W.step Sc mc hx y
      refine ⟨x, hmem, Bd, Sd.bh, qd, fun us hu => ⟨(wipe_setAll hjs).trans (wipe_sub fun _ h => h), ?_⟩⟩
      refine iteT fun p hp => ?_
      obtain ⟨S2, hpn⟩ := Sd.allocOwn hp (o := o0) (mo := mo0) (hmo _) hnt
      have hlist : (hp1 ++ (⟨D, oRaw (.lst (as.map V.ref))⟩ : Cell) :: as.map (⟨·, mo0⟩)) ++ [⟨p, mo0⟩] = hp1 ++ ⟨D, oRaw (.lst (as.map V.ref))⟩ :: (as ++ [p]).map (⟨·, mo0⟩) := by
        rw [List.append_assoc, List.cons_append, List.map_append]; rfl
      rw [hlist] at S2
      have hcell : (hp1 ++ (⟨D, oRaw (.lst (as.map V.ref))⟩ : Cell) :: (as ++ [p]).map (⟨·, mo0⟩))[hp1.length]? = some ⟨D, oRaw (.lst (as.map V.ref))⟩ := by
        rw [List.getElem?_append_right (Nat.le_refl _)]; simp
      obtain ⟨o, ho, hoo⟩ := S2.at hcell
      have hoo' : o = .lst (as.map V.ref) := hoo
      subst hoo'
      refine ⟨as.map V.ref, ho, by rw [List.length_map]; omega, by omega, Bd, as ++ [p], mc.trans md, ?_, by rw [List.length_append, hal]; rfl, fun b hb => ?_⟩
      · have S7 := S2.write hcell (o := .lst (as.map V.ref ++ [.ref p])) (mo := oRaw (.lst ((as ++ [p]).map V.ref))) (by rw [List.map_append]; rfl)
        have e : (hp1 ++ (⟨D, oRaw (.lst (as.map V.ref))⟩ : Cell) :: (as ++ [p]).map (⟨·, mo0⟩)).set hp1.length ⟨D, oRaw (.lst ((as ++ [p]).map V.ref))⟩ = hp1 ++ ⟨D, oRaw (.lst ((as ++ [p]).map V.ref))⟩ :: (as ++ [p]).map (⟨·, mo0⟩) := by
          rw [List.set_append_right _ _ (Nat.le_refl _)]; simp
        rw [e] at S7
        exact S7
      · rcases List.mem_append.mp hb with hb | hb
        · exact hao b hb
        · rw [List.mem_singleton.mp hb]; exact hpn
    · have e : i = xs.length := by omega
      subst e
      refine .inl ⟨W.stops Hc (mc.trans Sc.bh) (hF _ _ _ _ Sc), ?_⟩
      have hDn : D ∉ Z.own0 := fun z => Sc.on D z (S1.free0 hD)
      obtain ⟨o, h1, h2, h3, h4⟩ := Sat.freeze (c := ⟨D, oRaw (.lst (as.map V.ref))⟩) Sc hDn
      have h2' : o = .lst (as.map V.ref) := h2
      subst h2'
      exact k as D _ _ hal hao (m1.trans (mc.trans h4)) h3 upd_same
theorem all2_refs {B : Hp} : ∀ as : List Addr, All2 B (as.map V.ref) (as.map fun a => isV (.ref a))
  | [] => .nil
  | _ :: as => .cons rfl (all2_refs as)
theorem dss_lcN {α : Type} {xs : List α} {I : α → MA} {i : Nat} {x : Str} {scope : Scope} {spos dp : Pos} {own0 : List Addr} {rest : List Stmt} {Nx : NxP} {Rt : RtP} {κ β : Type} [DecidableEq κ] (ke : κ → List Key) (ve : β → PyData) (own : List (Str × Nat)) (js : List Nat) (As : α → List MA) (hN : X.N.Nodup) {F : List (Addr × HO)} (hi : DIF X tg iter sl hp xs I hp1 F) (ok : blkC X.N X.env.scope scope own = true)
    (hg : ∀ x, x ∈ xs → ∀ s H C cl fp, PG (X.blk s H scope (compEnvC scope cl C X.env) fp) tg (tDG (I x) js (As x)))
    (hz : xs.length ≤ sizeLine)
    (hr : ∀ as : List Addr, as.length = xs.length → (∀ b ∈ as, b ∉ own0) → DSs X own0 rest (sl.set i (some (listA (as.map fun a => isV (.ref a))))) (hp1 ++ as.map (⟨·, oT ke ve []⟩)) Nx Rt)
    (hjs : ∀ j ∈ js, j ∈ own.map (·.2) := by decide) (hy : X.N[i]? = some x := by rfl) (hyl : X.env.scope.names.lookup x = some .local := by rfl) (hsw : swapsWith (.ListComp (.Dict [] [] dp) [⟨tg, iter, [], 0⟩] scope pos) (some (.Name x pos')) spos.line X.env = pure true := by rfl) (hc : X.calm = true := by rfl) (hs : ∀ x, foldedSetIterable iter X.env x = pure x := by intro _; rfl) (hF : HdC hp1 F := by exact HdC.nil) :
    DSs X own0 (.Assign [.Name x pos'] (.ListComp (.Dict [] [] dp) [⟨tg, iter, [], 0⟩] scope pos) spos :: rest) sl hp Nx Rt := by
  obtain ⟨wi, h1, h2⟩ := hi.ex
  refine dss_setTo' (φ := fun as : List Addr => as.length = xs.length ∧ ∀ b ∈ as, b ∉ own0) (As := fun as => listA (as.map fun a => isV (.ref a))) (Cs := fun as => hp1 ++ as.map (⟨·, oT ke ve []⟩)) (te := tLc wi (fun v σ H Q => ∃ x, x ∈ xs ∧ tDG (I x) js (As x) v σ H Q) (fun σ H Q => Q true H)
    (fun σ H Q => ∀ p, H p = none → Q (.ref p) (upd H p (.dT []))) (own.map (·.2))) (ps_setLc hc hN hy hyl hsw h1 (blkOk_by ok) ?s1 ?s2 ?s3 hs) (fun σ H Q ⟨Z, B, z, S, T, k⟩ => lc_mainN (mo0 := oT ke ve []) hF h2 (fun B => ⟨[], rfl, .nil⟩) rfl hjs hz σ H Q ⟨Z, B, S, T, fun as a B' H' hal hao m S' ha => k as (.ref a) B' H' ⟨hal, by rw [← z]; exact hao⟩ m S' ⟨a, _, rfl, ha, all2_refs as⟩⟩) fun as h => hr as h.1 h.2
  · intro s H C cl fp
    refine pg_ex fun x => ⟨fun pins s' σ H' v u Q I' r ⟨hx, w⟩ => (hg x hx s H C cl fp).run pins s' σ H' v u Q I' r w⟩
  · intro s H C cl fp
    exact pts_nil
  · intro s H C cl fp
    exact pe_dnewT
end
end PK
end
section
set_option Elab.async false
set_option linter.all false
/-! how the parts stand at first; sets that grow; the end -/
namespace PM
section
variable {τ : Type} [DecidableEq τ]
abbrev pl (rows : Rows τ) (d : Dict τ) : Dict τ := rows.foldl (fun d r => aput d (r.1, r.2.1) r.2.2) d
theorem pl_facts : ∀ (rows : Rows τ) (d : Dict τ), (rows.map fun r => (r.1, r.2.1)).Nodup → (∀ r ∈ rows, 0 ≤ r.2.2) → (keys d).Nodup → (∀ kv ∈ d, 0 ≤ kv.2) → (∀ r ∈ rows, aget d (r.1, r.2.1) = none) →
    (keys (pl rows d)).Nodup ∧ (∀ kv ∈ pl rows d, 0 ≤ kv.2) ∧ ∀ p : Part τ, dg (pl rows d) p = dg d p + manyP rows p.1 p.2
  | [], d, _, _, h1, h2, _ => ⟨h1, h2, fun p => by show dg d p = dg d p + ls [] _; rw [ls_nil]; omega⟩
  | r :: rows, d, hn, hp, h1, h2, h3 => by
    rw [List.map_cons, List.nodup_cons] at hn
    have hr := hp r (List.mem_cons_self ..)
    have h0 := h3 r (List.mem_cons_self ..)
    obtain ⟨a1, a2, a3⟩ := pl_facts rows (aput d (r.1, r.2.1) r.2.2) hn.2 (fun x hx => hp x (List.mem_cons_of_mem _ hx)) (nodup_aput h1) (fun kv hkv => by
      rcases mem_aput hkv with rfl | h
      · exact hr
      · exact h2 kv h) (fun x hx => by
      rw [aget_put]
      by_cases q : (x.1, x.2.1) = (r.1, r.2.1)
      · exact absurd (q ▸ List.mem_map_of_mem (f := fun r : τ × τ × Int => (r.1, r.2.1)) hx) hn.1
      · rw [if_neg q]; exact h3 x (List.mem_cons_of_mem _ hx))
    refine ⟨a1, a2, fun p => ?_⟩
    show dg (pl rows (aput d (r.1, r.2.1) r.2.2)) p = _
    rw [a3 p, dg_put]
    unfold manyP
    rw [List.filter_cons]
    by_cases q : p = (r.1, r.2.1)
    · subst q
      rw [if_pos rfl, if_pos (by simp), ls_cons]
      have : dg d (r.1, r.2.1) = 0 := by unfold dg; rw [h0]; rfl
      omega
    · rw [if_neg q, if_neg]
      intro z
      simp only [Bool.and_eq_true, decide_eq_true_eq] at z
      exact q (by rw [z.1, z.2])
variable {rows : Rows τ} {W : Nat → Want τ} {n k : Nat} {g : Nat → Dict τ} {l : Dict τ} {lk : Nat → Int}
theorem Inv.first (hn : (rows.map fun r => (r.1, r.2.1)).Nodup) (hp : ∀ r ∈ rows, 0 ≤ r.2.2) (hW : ∀ i, i < n → 0 ≤ (W i).n) (hg : ∀ i, g i = []) : Inv rows W n g (pl rows []) (fun i => (W i).n) where
  gn i _ := by rw [hg]; exact List.nodup_nil
  g0 i _ kv h := by rw [hg] at h; cases h
  ln := (pl_facts rows [] hn hp List.nodup_nil (fun kv h => by cases h) fun r _ => rfl).1
  l0 := (pl_facts rows [] hn hp List.nodup_nil (fun kv h => by cases h) fun r _ => rfl).2.1
  k0 := hW
  lets i _ kv h := by rw [hg] at h; cases h
  tot p := by
    rw [(pl_facts rows [] hn hp List.nodup_nil (fun kv h => by cases h) fun r _ => rfl).2.2 p]
    have e1 : rs n (fun i => dg (g i) p) = rs n (fun _ => 0) := rs_congr fun i _ => by rw [hg]; rfl
    rw [e1, rs_zero]
    show 0 + _ + 0 = _
    omega
  sum i hi := by rw [hg]; show ls [] _ + (W i).n = _; rw [ls_nil]; omega
abbrev amg {κ β : Type} [DecidableEq κ] (d more : List (κ × β)) : List (κ × β) := more.foldl (fun acc kv => aput acc kv.1 kv.2) d
theorem amg_some {κ β : Type} [DecidableEq κ] : ∀ (more d : List (κ × β)) (x : κ), (aget (amg d more) x).isSome = true ↔ (aget d x).isSome = true ∨ (aget more x).isSome = true
  | [], d, x => by simp [aget]
  | kv :: more, d, x => by
    show (aget (amg (aput d kv.1 kv.2) more) x).isSome = true ↔ _
    rw [amg_some more _ x, aget_put]
    by_cases q : x = kv.1
    · subst q
      rw [if_pos rfl, aget_pos rfl]; simp
    · rw [if_neg q, aget_neg (fun z => q z.symm)]
theorem amg_nodup {κ β : Type} [DecidableEq κ] : ∀ (more d : List (κ × β)), (keys d).Nodup → (keys (amg d more)).Nodup
  | [], d, h => h
  | kv :: more, d, h => amg_nodup more _ (nodup_aput h)
theorem Closed.or {S T : Nat → Prop} (C : Closed rows W n g l S) (D : Closed rows W n g l T) : Closed rows W n g l fun i => S i ∨ T i := fun i hi h p hp => by
  rcases h with h | h
  · exact ⟨(C i hi h p hp).1, fun j hj hd => Or.inl ((C i hi h p hp).2 j hj hd)⟩
  · exact ⟨(D i hi h p hp).1, fun j hj hd => Or.inr ((D i hi h p hp).2 j hj hd)⟩
theorem Closed.iff {S T : Nat → Prop} (C : Closed rows W n g l S) (h : ∀ i, S i ↔ T i) : Closed rows W n g l T := fun i hi hT p hp =>
  ⟨(C i hi ((h i).mpr hT) p hp).1, fun j hj hd => (h j).mp ((C i hi ((h i).mpr hT) p hp).2 j hj hd)⟩
end
end PM
end
section
set_option Elab.async false
set_option linter.all false
set_option maxRecDepth 100000
set_option maxHeartbeats 8000000
namespace PK
open PySem PySem.Spec PyProof.Rows L2
open PM (Want manyP manyF ls letsL aget aput keys dg Spr SprEnd Cl Gone Path Way Inv Closed applyG stepG)
open PySem.W (AllAlike Sortable dataLe)
section
variable {κ β : Type} [DecidableEq κ] {X : Cx} {own0 : List Addr} {sl : SL} {hp hp1 : List Cell} {Nx : NxP} {Rt : RtP} {rest : List Stmt} {e o : Expr} {pos apos cpos : Pos} {a : Addr} {kk : κ → Key} {ve : β → PyData} {d : List (κ × β)}
theorem dss_updX {α : Type} {φ : α → Prop} {more : α → List (κ × β)} (inj : ∀ a b, kk a = kk b → a = b) (j : Nat) (ho : DE X o sl hp (isV (.ref a)) hp) (he : DE X e sl hp (exA fun q => andA (φ q) (isO (oK kk ve (more q)))) hp) (hj : hp[j]? = some ⟨a, oK kk ve d⟩) (hz : ∀ q, φ q → d.length + (more q).length ≤ 1000000) (hr : ∀ q, φ q → DSs X own0 rest sl (hp.set j ⟨a, oK kk ve (amerge d (more q))⟩) Nx Rt)
    (m : M1 X o "update" apos e cpos := by exact ⟨rfl, rfl, rfl, rfl⟩) (hs : swapsWith (.Call (.Attribute o "update" apos) [e] [] cpos) none pos.line X.env = pure false := by rfl) : DSs X own0 (.Expr (.Call (.Attribute o "update" apos) [e] [] cpos) pos :: rest) sl hp Nx Rt :=
  pss_imp (pss_cons (ps_expr (pe_dupd ho he m) hs) (pss_ex fun q => pss_hyp (hr q))) fun D σ H ⟨Z, B, z, S, T, k, r⟩ => ⟨Z, B, S, T, fun v B1 H1 m1 S1 q1 => by
    have q1' : v = .ref a := q1
    subst q1'
    obtain ⟨u, hu, kvs, rfl, pv⟩ := S1.at hj
    refine ⟨a, rfl, .inl ⟨kvs, .inl hu⟩, Z, B1, S1, T.mono m1, fun w B2 H2 m2 S2 ⟨q, hq, b, o2, e2, h2, kvs2, e3, pv2⟩ => ?_⟩
    subst e2 e3
    obtain ⟨u2, hu2, kvs', rfl, pv'⟩ := S2.at hj
    have hab : a ≠ b := fun z => by
      have := (S2.ow _ (List.mem_of_getElem? hj)).1
      rw [show (⟨a, oK kk ve d⟩ : Cell).a = a from rfl, z, h2] at this; cases this
    refine ⟨b, kvs', kvs2, rfl, hab, hu2, .inl (S2.bh _ _ h2), by rw [Paired.length pv', Paired.length pv2]; exact Nat.le_trans (hz q hq) (by decide), q, hq, Z, B2, z, S2.write hj (o := .dK (mergeK kvs' kvs2)) (mo := oK kk ve (amerge d (more q))) ⟨_, rfl, PV.merge inj pv2 pv'⟩, T.mono (m1.trans m2), fun σ' B' H' s h m => k σ' B' H' s h (m1.trans (m2.trans m)), fun v B' H' h m => r v B' H' h (m1.trans (m2.trans m))⟩⟩
end
theorem gcells_new : ∀ as : List Addr, as.map (⟨·, oT kP PyData.int []⟩) = gcells as (List.replicate as.length [])
  | [] => rfl
  | a :: as => by rw [List.map_cons, gcells_new as]; rfl
theorem gg_new (n i : Nat) : Gg (List.replicate n []) i = [] := by
  unfold Gg
  rw [List.getD_eq_getElem?_getD, List.getElem?_replicate]
  split <;> rfl
theorem ixN_nat {n k : Nat} (h : k < n) : ixN n (k : Int) = some k := by
  unfold ixN
  simp
  omega
theorem gcells_len {as : List Addr} {gs : List DP} (h : as.length = gs.length) : (gcells as gs).length = gs.length := by
  unfold gcells; simp [h]
def lkL (n : Nat) (lk : Nat → Int) : List PyData := (List.range n).map fun i => .int (lk i)
theorem lkL_len (n : Nat) (lk : Nat → Int) : (lkL n lk).length = n := by unfold lkL; simp
theorem lkL_at {n : Nat} {lk : Nat → Int} {k : Nat} (h : k < n) : (lkL n lk)[k]? = some (.int (lk k)) := by
  unfold lkL
  rw [List.getElem?_map, List.getElem?_range h]; rfl
theorem lkL_set {n : Nat} {lk : Nat → Int} {k : Nat} {v : Int} : (lkL n lk).set k (.int v) = lkL n (fun i => if i = k then v else lk i) := by
  apply List.ext_getElem?
  intro j
  by_cases hj : j < n
  · rw [lkL_at hj]
    by_cases e : k = j
    · subst e
      rw [List.getElem?_set_self (by rw [lkL_len]; exact hj), if_pos rfl]
    · rw [List.getElem?_set_ne e, lkL_at hj, if_neg (fun z => e z.symm)]
  · rw [List.getElem?_eq_none (by rw [List.length_set, lkL_len]; omega), List.getElem?_eq_none (by rw [lkL_len]; omega)]
def ledHp (as : List Addr) (gs : List DP) (aL : Addr) (l : DP) (aK : Addr) (n : Nat) (lk : Nat → Int) : List Cell := (⟨aL, oT kP .int l⟩ :: gcells as gs) ++ [⟨aK, oL (lkL n lk)⟩]
theorem ledHp_at {as : List Addr} {gs : List DP} {aL aK : Addr} {l : DP} {n : Nat} {lk : Nat → Int} {fr : List Cell} : (ledHp as gs aL l aK n lk ++ fr)[(gcells as gs).length + 1]? = some ⟨aK, oL (lkL n lk)⟩ := by
  unfold ledHp
  rw [List.append_assoc]
  rw [List.getElem?_append_right (by simp)]; simp
structure LedEnd (rows : Rws) (ws : List Wt) (gs : List DP) (l : DP) (lk : Nat → Int) (R : List Nat) : Prop where
  inv : Inv rows (Wf ws) ws.length (Gg gs) l lk
  lg : gs.length = ws.length
  len : R.length ≤ 6
  lt : ∀ x ∈ R, x < ws.length
  cl : Closed rows (Wf ws) ws.length (Gg gs) l (· ∈ R)
  lks : ∀ k, k < ws.length → 0 < lk k → k ∈ R
  fm : ∀ x ∈ R, ∃ k ∈ R, 0 < lk k ∧ (Wf ws k).f = (Wf ws x).f
structure LI (rows : Rws) (ws : List Wt) (gs : List DP) (l : DP) (lk : Nat → Int) (i : Nat) : Prop where
  inv : Inv rows (Wf ws) ws.length (Gg gs) l lk
  lg : gs.length = ws.length
  ll : l.length ≤ 12
  cl : ∀ k, k < i → k < ws.length → 0 < lk k → ∃ T : Nat → Bool, T k = true ∧ Closed rows (Wf ws) ws.length (Gg gs) l fun i => T i = true
def spLed (K : PySem.W.Frag) : Sp := spOf (γ := Rws × List Wt) (fun y => [isHeap (HC K) y.1, isD (eWants y.2)]) (fun _ => []) (fun y => OkR y.1 ∧ OkWs y.2)
  (fun y v B hp' => ∃ (as : List Addr) (gs : List DP) (aL : Addr) (l : DP) (aK : Addr) (lk : Nat → Int) (R : List Nat), LedEnd y.1 y.2 gs l lk R ∧ as.length = y.2.length ∧ hp' = ledHp as gs aL l aK y.2.length lk ∧ (tupA [gA as, isV (.ref aL), isV (.ref aK), isD (.list (R.map natD))]).p v B)
def ledSl (K : PySem.W.Frag) (rows : Rws) (ws : List Wt) (as : List Addr) (aL aK : Addr) (s5 s6 s8 : Option MA) : SL :=
  [some (isHeap (HC K) rows), some (isD (eWants ws)), some (gA as), some (isV (.ref aL)), some (isV (.ref aK)), s5, s6, none, s8, none]
theorem sI_nats {ns : List Nat} : ∃ R : List Nat, (sI (ns.map fun i : Nat => (i : Int))).map PyData.int = R.map natD ∧ (∀ x, x ∈ R ↔ x ∈ ns) ∧ R.length = ns.length := by
  have hp := sI_perm (ns.map fun i : Nat => (i : Int))
  refine ⟨(sI (ns.map fun i : Nat => (i : Int))).map Int.toNat, ?_, fun x => ?_, by rw [List.length_map, hp.length_eq, List.length_map]⟩
  · rw [List.map_map]
    refine List.map_congr_left fun i hi => ?_
    obtain ⟨m, _, rfl⟩ := List.mem_map.mp (hp.mem_iff.mp hi)
    rfl
  · rw [List.mem_map]
    constructor
    · rintro ⟨i, hi, rfl⟩
      obtain ⟨m, hm, rfl⟩ := List.mem_map.mp (hp.mem_iff.mp hi)
      exact hm
    · intro hx
      exact ⟨(x : Int), hp.mem_iff.mpr (List.mem_map_of_mem (f := fun i : Nat => (i : Int)) hx), rfl⟩
section
variable {P : Program} {w : World} {K : PySem.W.Frag} {mg : Str → Option Value} {base : Heap} {f : Addr} {fd : FuncData}
theorem ok_led (Y : Bi mg) (c1 : C8.Cal P w K mg base 3 "spread" (spSpread K) []) (c2 : C8.Cal P w K mg base 2 "parts_left" (spPartsLeft K) []) (c3 : C8.Cal P w K mg base 4 "lead" (spLead K) []) (F : FnD K d_led f fd) : FnOk P w K mg base CX0 5 f fd ["heap", "wants"] (spLed K) := by
  refine ok_ds F sc_led _ _ _ _ (fun _ => rfl) fun y hy cdv A outer s H E hr => ?_
  obtain ⟨rows, ws⟩ := y
  obtain ⟨okr, okw⟩ := hy
  have okr : OkR rows := okr
  have okw : OkWs ws := okw
  have hn6 := okw.len
  refine dss_lcN (i := 2) kP .int [("want", 9)] [9] (fun w => [isD (eWant w)]) sc_led.nd (di_tup (f := eWant) (xs := ws) (hp1 := []) (de_var 1 rfl)) (by show blkC N_led (defScope s_led) _ _ = true; decide +kernel) (fun w _ s H C cl fp => dg_name 9 sc_led.nd rfl (Or.inl rfl)) (Nat.le_trans hn6 (by decide)) fun as hal has => ?_
  rw [List.nil_append, gcells_new, hal]
  refine dss_setX (α := Addr) (As := fun a => isV (.ref a)) (Cs := fun a => ⟨a, oT kP .int (pleft rows)⟩ :: gcells as (List.replicate ws.length [])) (i := 3) (dx_call (fr := gcells as (List.replicate ws.length [])) c2 hr (by omega) rows okr.len' (da_cons (de_var 0 rfl) da_nil)) (fun v B hp' h => by obtain ⟨hq, ⟨a, h1, h2⟩, h3⟩ := h; exact ⟨a, h1, by rw [h3, h2]; rfl⟩) (fun aL => ?_) sc_led.nd
  refine dss_lcO (i := 4) [("want", 9)] [9] (fun w => [isD (eWant w)]) (fun _ => true) (fun w => .int w.n) sc_led.nd (di_tup (f := eWant) (xs := ws) (hp1 := ⟨aL, oT kP .int (pleft rows)⟩ :: gcells as (List.replicate ws.length [])) (de_var 1 rfl)) (by show blkC N_led (defScope s_led) _ _ = true; decide +kernel) (fun w _ s H C cl fp => dg_name 9 sc_led.nd rfl (Or.inl rfl)) (fun w _ s H C cl fp => dts_nil) (fun w _ _ s H C cl fp => de_ixT (ds := [.str w.f, .tuple (w.sh.map .str), .int w.n]) (i := 2) rfl (de_var 9 rfl) de_int) (Nat.le_trans hn6 (by decide)) (fun aK haK => ?_)
  have e0 : ((ws.filter fun _ => true).map fun w : Wt => PyData.int w.n) = lkL ws.length fun i => (Wf ws i).n := by
    rw [List.filter_eq_self.mpr fun _ _ => rfl]
    apply List.ext_getElem?
    intro j
    by_cases hj : j < ws.length
    · rw [List.getElem?_map, lkL_at hj, wf_get hj]; rfl
    · rw [List.getElem?_eq_none (by simpa using hj), List.getElem?_eq_none (by rw [lkL_len]; omega)]
  rw [e0]
  have hrange : ∀ {sl : SL} {hp : List Cell} {X : Cx}, True := fun {_ _ _} => trivial
  -- the first loop
  have hpl := PM.pl_facts rows [] okr.nd (fun r hr => by have := okr.n1 r hr; omega) List.nodup_nil (fun kv h => by cases h) fun r _ => rfl
  refine dss_for (di_range1 (n := ws.length) Y.range (da_cons (de_eq (de_callB call_len_seq (rc_lenT (ds := ws.map eWant)) Y.len bt_len (da_cons (de_var 1 rfl) da_nil)) (by rw [List.length_map])) da_nil) (by omega)) [5] (fun j => [isI ((j : Nat) : Int)]) (fun j _ => dg_name 5 sc_led.nd rfl (Or.inl rfl))
    (fun i s h => ∃ (gs : List DP) (l : DP) (lk : Nat → Int), LI rows ws gs l lk i ∧ s = ledSl K rows ws as aL aK none none none ∧ h = ledHp as gs aL l aK ws.length lk)
    ⟨List.replicate ws.length [], pleft rows, fun i => (Wf ws i).n, ⟨PM.Inv.first okr.nd (fun r hr => by have := okr.n1 r hr; omega) (fun i hi => by have := (okw.w _ (wf_mem hi)).n1; omega) (gg_new _), List.length_replicate .., ?_, fun k h => by omega⟩, rfl, rfl⟩ ?_ ?_
  · have := pleft_len rows []
    have h2 := okr.len
    exact Nat.le_trans this (by rw [List.length_nil]; omega)
  · -- a want
    rintro k k' s h hk ⟨gs, l, lk, li, rfl, rfl⟩
    obtain ⟨hkl, hke⟩ := List.getElem?_eq_some_iff.mp hk
    rw [List.getElem_range] at hke
    subst hke
    rw [List.length_range] at hkl
    refine dss_set (i := 6) de_int ?_ sc_led.nd
    refine dss_while (fun m s h => ∃ (gs : List DP) (l : DP) (lk : Nat → Int) (many : Int), (LI rows ws gs l lk k ∧ 0 ≤ many ∧ (many = 0 → ∃ T : Nat → Bool, T k = true ∧ Closed rows (Wf ws) ws.length (Gg gs) l fun i => T i = true) ∧ m = (lk k).toNat + if 0 < many then 1 else 0) ∧ s = ledSl K rows ws as aL aK (some (isI (k : Int))) (some (isI many)) none ∧ h = ledHp as gs aL l aK ws.length lk)
      ((lk k).toNat + if 0 < (1 : Int) then 1 else 0) ⟨gs, l, lk, 1, ⟨li, by omega, fun h => by omega, rfl⟩, rfl, rfl⟩ ?_
    rintro m s h ⟨gs, l, lk, many, ⟨li, hm0, hmT, rfl⟩, rfl, rfl⟩
    have hlk0 := li.inv.k0 k hkl
    refine ⟨decide (0 < lk k) && decide (0 < many), ledHp as gs aL l aK ws.length lk, ?_, fun hb => ?_, fun hb => ?_⟩
    · have hat := ledHp_at (as := as) (gs := gs) (aL := aL) (aK := aK) (l := l) (n := ws.length) (lk := lk) (fr := [])
      rw [List.append_nil] at hat
      exact dt_w (dw_and (dt_cmp op_gt re_B0 (de_ixOwn (d := .int (lk k)) _ hat (atI_nat' (lkL_at hkl)) (de_var 4 rfl) (de_var 5 rfl)) de_int) fun _ => dw_and1 (dt_cmp op_gt re_B0 (de_var 6 rfl) de_int))
    · obtain ⟨hb1, hb2⟩ := Bool.and_eq_true_iff.mp hb
      have hb1 : 0 < lk k := of_decide_eq_true hb1
      have hb2 : 0 < many := of_decide_eq_true hb2
      have hat := ledHp_at (as := as) (gs := gs) (aL := aL) (aK := aK) (l := l) (n := ws.length) (lk := lk) (fr := [])
      rw [List.append_nil] at hat
      have hld : LdOk ⟨rows, ws, as, gs, aL, l, k⟩ lk := ⟨⟨okr, okw, hal, li.lg, li.inv.lets, hkl⟩, li.inv, li.ll⟩
      refine dss_unp (α := { q : List DP × DP × Int // LedR ⟨rows, ws, as, gs, aL, l, k⟩ lk q }) (As := fun q => [isI q.1.2.2, anyA]) (Cs := fun q => ledHp as q.1.1 aL q.1.2.1 aK ws.length lk) (js := [6, 7])
        (dx_call (fr := [⟨aK, oL (lkL ws.length lk)⟩]) c3 hr (Nat.le_refl _) (⟨rows, ws, as, gs, aL, l, k⟩, lk) ⟨hld, hb1⟩ (da_cons (de_var 0 rfl) (da_cons (de_var 1 rfl) (da_cons (de_var 2 rfl) (da_cons (de_var 3 rfl) (da_cons (de_var 5 rfl) (da_cons (de_ixOwn (d := .int (lk k)) _ hat (atI_nat' (lkL_at hkl)) (de_var 4 rfl) (de_var 5 rfl)) da_nil)))))))
        (fun v B hp' h => by obtain ⟨hq, ⟨q, h1, h2, h3⟩, h4⟩ := h; exact ⟨⟨q, h1⟩, h3, by rw [h4, h2]; rfl⟩) (fun q => dgA2 rfl (fun A => dg_name 6 sc_led.nd rfl (Or.inl rfl)) (fun A => dg_name 7 sc_led.nd rfl (Or.inl rfl))) ?_
      rintro ⟨⟨gs2, l2, many2⟩, hR⟩
      have hat2 := ledHp_at (as := as) (gs := gs2) (aL := aL) (aK := aK) (l := l2) (n := ws.length) (lk := lk) (fr := [])
      rw [List.append_nil] at hat2
      refine dss_setIx (d := .int (lk k - many2)) (hp1 := ledHp as gs2 aL l2 aK ws.length lk) ((gcells as gs2).length + 1) hat2 (ixN_nat (by rw [lkL_len]; exact hkl)) (de_op op_sub re_I0 (de_ixOwn (d := .int (lk k)) _ hat2 (atI_nat' (lkL_at hkl)) (de_var 4 rfl) (de_var 5 rfl)) (de_var 6 rfl)) (de_var 4 rfl) (de_var 5 rfl) ?_
      have ecell : (ledHp as gs2 aL l2 aK ws.length lk).set ((gcells as gs2).length + 1) ⟨aK, oL ((lkL ws.length lk).set k (.int (lk k - many2)))⟩ = ledHp as gs2 aL l2 aK ws.length (fun i => if i = k then lk k - many2 else lk i) := by
        rw [lkL_set]
        unfold ledHp
        rw [List.set_append_right _ _ (by simp)]
        simp
      rw [ecell]
      refine dss_nil (sl' := ledSl K rows ws as aL aK (some (isI (k : Int))) (some (isI many2)) none) (wk_mask [true, true, true, true, true, true, true, false, true, true] _) ?_
      rcases hR with ⟨h1, h2, h3, h4⟩ | ⟨h1, h2, h3⟩
      · have h1 : many2 = 0 := h1
        have h2 : gs2 = gs := h2
        have h3 : l2 = l := h3
        subst h1 h2 h3
        have elk : (fun i => if i = k then lk k - 0 else lk i) = lk := by
          funext i
          split
          · rename_i e; subst e; omega
          · rfl
        refine ⟨(lk k).toNat + if 0 < (0 : Int) then 1 else 0, ?_, gs2, l2, lk, 0, ⟨li, Int.le_refl _, fun _ => h4, rfl⟩, rfl, by rw [elk]⟩
        rw [if_pos hb2, if_neg (by omega)]; omega
      · have h1 : 0 < many2 := h1
        have hsp := h2.sp
        have h5 : Inv rows (Wf ws) ws.length (Gg gs2) l2 (fun i => if i = k then lk k - many2 else lk i) := h2.inv
        have h6 := h5.k0 k hkl
        rw [if_pos rfl] at h6
        refine ⟨((if k = k then lk k - many2 else lk k)).toNat + if 0 < many2 then 1 else 0, ?_, gs2, l2, _, many2, ⟨⟨h5, hsp.lg, h2.ll, fun k' hk' hk'n hlk => ?_⟩, by omega, fun e => by omega, rfl⟩, rfl, rfl⟩
        · rw [if_pos rfl, if_pos h1, if_pos hb2]; omega
        · rw [if_neg (by omega)] at hlk
          obtain ⟨T, t1, t2⟩ := li.cl k' hk' hk'n hlk
          exact ⟨T, t1, h3 (fun i => T i = true) t2⟩
    · refine dss_nil (sl' := ledSl K rows ws as aL aK none none none) (wk_mask [true, true, true, true, true, false, false, true, true, true] _) ⟨gs, l, lk, ⟨li.inv, li.lg, li.ll, fun k' hk' hk'n hlk => ?_⟩, rfl, rfl⟩
      by_cases e : k' = k
      · subst e
        refine hmT ?_
        rcases Bool.and_eq_false_iff.mp hb with h | h
        · exact absurd hlk (of_decide_eq_false h)
        · have := of_decide_eq_false h; omega
      · exact li.cl k' (by omega) hk'n hlk
  · -- the second loop
    rintro s h ⟨gs, l, lk, li, rfl, rfl⟩
    rw [List.length_range] at li
    refine dss_newK (i := 8) kI optP (fun aR haR => ?_) sc_led.nd
    refine dss_for (di_range1 (n := ws.length) Y.range (da_cons (de_eq (de_callB call_len_seq (rc_lenT (ds := ws.map eWant)) Y.len bt_len (da_cons (de_var 1 rfl) da_nil)) (by rw [List.length_map])) da_nil) (by omega)) [5] (fun j => [isI ((j : Nat) : Int)]) (fun j _ => dg_name 5 sc_led.nd rfl (Or.inl rfl))
      (fun i s h => ∃ (d : List (Nat × Option (Str × Str))), ((keys d).Nodup ∧ (∀ x, (aget d x).isSome = true → x < ws.length ∧ ∃ k, (aget d k).isSome = true ∧ 0 < lk k ∧ (Wf ws k).f = (Wf ws x).f) ∧ Closed rows (Wf ws) ws.length (Gg gs) l (fun x => (aget d x).isSome = true) ∧ ∀ k, k < i → k < ws.length → 0 < lk k → (aget d k).isSome = true) ∧
        s = ledSl K rows ws as aL aK none none (some (isV (.ref aR))) ∧ h = ledHp as gs aL l aK ws.length lk ++ [⟨aR, oK kI optP d⟩])
      ⟨[], ⟨List.nodup_nil, (fun x h => by cases h), (fun i hi h => by cases h), fun k h => by omega⟩, rfl, rfl⟩ ?_ ?_
    · rintro k k' s h hk ⟨d, ⟨nd, hx, hcl, hlk⟩, rfl, rfl⟩
      obtain ⟨hkl, hke⟩ := List.getElem?_eq_some_iff.mp hk
      rw [List.getElem_range] at hke
      subst hke
      rw [List.length_range] at hkl
      refine dss_when (b := decide (0 < lk k)) (M := fun s h => ∃ (d : List (Nat × Option (Str × Str))), ((keys d).Nodup ∧ (∀ x, (aget d x).isSome = true → x < ws.length ∧ ∃ k, (aget d k).isSome = true ∧ 0 < lk k ∧ (Wf ws k).f = (Wf ws x).f) ∧ Closed rows (Wf ws) ws.length (Gg gs) l (fun x => (aget d x).isSome = true) ∧ ∀ k', k' < k + 1 → k' < ws.length → 0 < lk k' → (aget d k').isSome = true) ∧
        s = ledSl K rows ws as aL aK (some (isI (k : Int))) none (some (isV (.ref aR))) ∧ h = ledHp as gs aL l aK ws.length lk ++ [⟨aR, oK kI optP d⟩])
        (dt_cmp op_gt re_B0 (de_ixOwn (d := .int (lk k)) _ ledHp_at (atI_nat' (lkL_at hkl)) (de_var 4 rfl) (de_var 5 rfl)) de_int) (fun hb => ?_) (fun hb => ?_) fun s h ⟨d, h1, e1, e2⟩ => ?_
      · have hb : 0 < lk k := of_decide_eq_true hb
        have hld : SpOk ⟨rows, ws, as, gs, aL, l, k⟩ := ⟨okr, okw, hal, li.lg, li.inv.lets, hkl⟩
        have hdl : d.length ≤ 6 := by
          have := PM.length_le_of_nodup ws.length (keys d) nd fun x hx' => (hx x (PM.aget_isSome_keys.mpr hx')).1
          exact keys_le this hn6
        refine dss_updX (α := SpRes) (φ := fun q => SprEnd rows (Wf ws) ws.length (Gg gs) l k q.1 q.2.1 q.2.2 ∧ q.2.1.length ≤ 6) (more := fun q => q.2.1) (d := d) kI_inj ((ledHp as gs aL l aK ws.length lk).length) (de_var 8 rfl)
          (de_ixTA (j := 1) (As := [anyA, exA fun q : SpRes => andA (SprEnd rows (Wf ws) ws.length (Gg gs) l k q.1 q.2.1 q.2.2 ∧ q.2.1.length ≤ 6) (isO (oK kI optP q.2.1)), anyA]) rfl (de_is (A := sprA ⟨rows, ws, as, gs, aL, l, k⟩) ?_ fun v B ⟨q, h1, h2⟩ => ?_) de_int) (by simp) (fun q hq => by have := hq.2; omega) fun q hq => ?_
        · have eh : SpIn.cells ⟨rows, ws, as, gs, aL, l, k⟩ ++ [⟨aK, oL (lkL ws.length lk)⟩, ⟨aR, oK kI optP d⟩] = ledHp as gs aL l aK ws.length lk ++ [⟨aR, oK kI optP d⟩] := by
            unfold ledHp SpIn.cells
            rw [List.append_assoc]; rfl
          rw [← eh]
          exact de_call (A := sprA ⟨rows, ws, as, gs, aL, l, k⟩) (hq := SpIn.cells ⟨rows, ws, as, gs, aL, l, k⟩) (fr := [⟨aK, oL (lkL ws.length lk)⟩, ⟨aR, oK kI optP d⟩]) c1 hr (by omega) (⟨rows, ws, as, gs, aL, l, k⟩ : SpIn) hld (da_cons (de_var 0 rfl) (da_cons (de_var 1 rfl) (da_cons (de_var 2 rfl) (da_cons (de_var 3 rfl) (da_cons (de_var 5 rfl) da_nil))))) (fun B vs h => by rw [List.append_nil]; exact h) (fun v B hp' h => by exact ⟨h.2, h.1⟩)
        · obtain ⟨a, xs, e1, e2, e3⟩ := h2
          cases e3 with
          | cons g1 e3 => cases e3 with
            | cons g2 e3 => cases e3 with
              | cons g3 e3 => cases e3; exact ⟨a, _, e1, e2, .cons trivial (.cons ⟨q, h1, g2⟩ (.cons trivial .nil))⟩
        · have hE := hq.1
          obtain ⟨T, t1, t2⟩ := li.cl k hkl hkl hb
          have hnone := hE.none_of_closed t2 t1
          have hcl2 := hE.none_ hnone
          obtain ⟨r, spr⟩ := hE.spr
          refine dss_nil (Wk.refl _) ⟨amerge d q.2.1, ⟨PM.amg_nodup _ _ nd, fun x h => ?_, (hcl.or hcl2).iff fun x => (PM.amg_some _ _ _).symm, fun k' hk' hk'n hl => ?_⟩, rfl, ?_⟩
          · rcases (PM.amg_some _ _ _).mp h with h | h
            · obtain ⟨a1, k2, a2, a3⟩ := hx x h
              exact ⟨a1, k2, (PM.amg_some _ _ _).mpr (.inl a2), a3⟩
            · cases qx : aget q.2.1 x with
              | none => rw [qx] at h; cases h
              | some o => exact ⟨spr.lt x o qx, k, (PM.amg_some _ _ _).mpr (.inr (by rw [spr.hk]; rfl)), hb, (spr.fm x o qx).symm⟩
          · by_cases e : k' = k
            · subst e; exact (PM.amg_some _ _ _).mpr (.inr (by rw [spr.hk]; rfl))
            · exact (PM.amg_some _ _ _).mpr (.inl (hlk k' (by omega) hk'n hl))
          · rw [List.set_append_right _ _ (Nat.le_refl _)]; simp
      · refine ⟨d, ⟨nd, hx, hcl, fun k' hk' hk'n hl => ?_⟩, rfl, rfl⟩
        by_cases e : k' = k
        · subst e; exact absurd hl (of_decide_eq_false hb)
        · exact hlk k' (by omega) hk'n hl
      · subst e1 e2
        exact dss_nil (wk_mask [true, true, true, true, true, false, true, true, true, true] _) ⟨d, h1, rfl, rfl⟩
    · rintro s h ⟨d, ⟨nd, hx, hcl, hlk⟩, rfl, rfl⟩
      rw [List.length_range] at hlk
      have hdl : d.length ≤ 6 := by
        have := PM.length_le_of_nodup ws.length (keys d) nd fun x hx' => (hx x (PM.aget_isSome_keys.mpr hx')).1
        exact keys_le this hn6
      obtain ⟨R, hR1, hR2, hR3⟩ := sI_nats (ns := keys d)
      have hRi : ∀ x, x ∈ R ↔ (aget d x).isSome = true := fun x => (hR2 x).trans PM.aget_isSome_keys.symm
      refine dss_freezeO (hp' := []) 8 rfl haR ?_
      rw [List.append_nil]
      refine dss_ret (de_tupA (As := [gA as, isV (.ref aL), isV (.ref aK), isD (.list (R.map natD))]) (da_cons (de_var 2 rfl) (da_cons (de_var 3 rfl) (da_cons (de_var 4 rfl) (da_cons (de_eq (de_callB (call_sortedDI rfl) (rc_sortK (kk := kI) (ki := fun i : Nat => (i : Int)) (d := d) (fun _ => rfl) (by omega)) Y.sorted bt_sorted (da_cons (de_var 8 rfl) da_nil)) (by rw [hR1])) da_nil))))) fun v B h =>
        ⟨as, gs, aL, l, aK, lk, R, ⟨li.inv, li.lg, by rw [hR3]; unfold keys; rw [List.length_map]; exact hdl, fun x h => (hx x ((hRi x).mp h)).1, hcl.iff fun x => (hRi x).symm, fun k hk h => (hRi k).mpr (hlk k hk hk h), fun x h => ?_⟩, hal, rfl, h⟩
      obtain ⟨_, k, a1, a2⟩ := hx x ((hRi x).mp h)
      exact ⟨k, (hRi k).mpr a1, a2⟩
end
end PK
end
section
set_option Elab.async false
set_option linter.all false
set_option maxRecDepth 100000
set_option maxHeartbeats 8000000
namespace PK
open PySem PySem.Spec PyProof.Rows L2
open PM (Want manyP manyF ls letsL aget aput keys dg Spr SprEnd Cl Gone Path Way Inv Closed applyG stepG)
open PySem.W (AllAlike Sortable dataLe)
theorem de_drop {X : Cx} {sl : SL} {hp hp1 hp2 : List Cell} {e : Expr} {A : MA} (h : DE X e sl hp A (hp1 ++ hp2)) : DE X e sl hp A hp1 :=
  pe_imp h fun σ H Q ⟨Z, B, S, T, k⟩ => ⟨Z, B, S, T, fun v B' H' m S' q => k v B' H' m S'.to_nil q⟩
theorem dss_drop {X : Cx} {own0 : List Addr} {sts : List Stmt} {sl : SL} {hp hp2 : List Cell} {Nx : NxP} {Rt : RtP} (h : DSs X own0 sts sl hp Nx Rt) : DSs X own0 sts sl (hp ++ hp2) Nx Rt :=
  pss_imp h fun D σ H ⟨Z, B, z, S, T, k, r⟩ => ⟨Z, B, z, S.to_nil, T, k, r⟩
theorem alike_pairs (l : List (Str × Int)) : AllAlike (l.map ePair) := PySem.W.AllAlike.of fun b b' => by simp [ePair, PySem.W.alike, PySem.W.alikeAll]
theorem sortable_pairs (l : List (Str × Int)) : Sortable (l.map ePair) := PySem.W.Sortable.tuples fun b => ⟨_, _, rfl⟩
def giftOf (d : DP) : Gf := srt ePair (((keys d).filter fun x => decide (0 < dg d x)).map fun x => (x.2, dg d x))
theorem oT_mut {κ β : Type} [DecidableEq κ] {ke : κ → List Key} {ve : β → PyData} {d : List (κ × β)} (u : HO) (B : Hp) (h : (oT ke ve d).p u B) : Mut (some u) := by
  obtain ⟨kvs, rfl, _⟩ := h; trivial
section
variable {P : Program} {w : World} {K : PySem.W.Frag} {mg : Str → Option Value} {base : Heap} {f : Addr} {fd : FuncData}
abbrev spAsGift : Sp := spOf (γ := Addr × DP) (fun y => [isV (.ref y.1)]) (fun y => [⟨y.1, oT kP .int y.2⟩]) (fun y => y.2.length ≤ 1000) (fun y v B hp' => hp' = [⟨y.1, oT kP .int y.2⟩] ∧ (isD (eGift (giftOf y.2))).p v B)
theorem keys_dg {d : DP} {x : Str × Str} (h : x ∈ keys d) : aget d x = some (dg d x) := PM.dg_of_some (PM.aget_isSome_keys.mpr h)
theorem ok_as_gift (Y : Bi mg) (F : FnD K d_as_gift f fd) : FnOk P w K mg base CX0 1 f fd ["some"] spAsGift := by
  refine ok_ds F sc_as_gift _ _ _ _ (fun _ => rfl) fun y hy cdv A outer s H E hr => ?_
  obtain ⟨a, d⟩ := y
  have hz : d.length ≤ 1000 := hy
  have hkl : (keys d).length ≤ 1000 := by unfold keys; rw [List.length_map]; exact hz
  refine dss_ret (A := isD (eGift (giftOf d))) (hp1 := [⟨a, oT kP .int d⟩]) (de_callTy call_tuple_of (rc_tupleL (ds := (giftOf d).map ePair)) Y.tuple bt_tuple (da_cons (de_callB (cr_sortDat (hu64 hr)) (rc_sortD (enc := ePair) (l := ((keys d).filter fun x => decide (0 < dg d x)).map fun x => (x.2, dg d x)) (alike_pairs _) (sortable_pairs _) ?_ ?_) Y.sorted bt_sorted
    (da_cons (de_eq (de_lock 0 rfl oT_mut fun od u => de_lcD (xs := keys d) [("part", 1)] [1] (fun x => [isD (ePart x)]) (fun x => decide (0 < dg d x)) (fun x => ePair (x.2, dg d x)) sc_as_gift.nd (di_keysT 0 rfl (de_var 0 rfl)) (by show blkC N_as_gift (defScope s_as_gift) _ _ = true; decide +kernel)
      (fun x _ s H C cl fp => dg_name 1 sc_as_gift.nd rfl (Or.inl rfl)) (fun x hx s H C cl fp => dts_one (dt_cmp op_gt re_B0 (de_getT (ve := .int) (x := x) (y := dg d x) kP_inj (hu64 hr) (keys_dg hx) (acc_fz 0 rfl) (de_var 0 rfl) (de_var 1 rfl)) de_int))
      (fun x hx _ s H C cl fp => de_tup (ds := [.str x.2, .int (dg d x)]) (da_cons (de_ixT ix1 (de_var 1 rfl) de_int) (da_cons (de_getT (ve := .int) (x := x) (y := dg d x) kP_inj (hu64 hr) (keys_dg hx) (acc_fz 0 rfl) (de_var 0 rfl) (de_var 1 rfl)) da_nil))) (Nat.le_trans hkl (by decide)) (hF := hdc_fz 0 rfl)) ?_) da_nil)) da_nil)) fun v B h => ⟨rfl, h⟩
  · rw [List.length_map]
    exact Nat.le_trans (List.length_filter_le ..) hkl
  · intro x _
    simp [ePair, PyData.depth, PyData.depthAll]
  · rw [List.map_map]; rfl
abbrev spShades : Sp := spP (γ := List Wt × List Nat) (fun y => [isD (eWants y.1), isD (.list (y.2.map natD))]) (fun y => OkWs y.1 ∧ (∀ k ∈ y.2, k < y.1.length) ∧ y.2.length ≤ 100) (fun y => isD (.tuple ((sSet (y.2.flatMap fun k => (Wf y.1 k).sh)).map .str)))
theorem ok_shades_of (Y : Bi mg) (F : FnD K d_shades_of f fd) : FnOk P w K mg base CX0 1 f fd ["wants", "some"] spShades := by
  refine ok_ds F sc_shades_of _ _ _ _ (fun _ => rfl) fun y hy cdv A outer s H E hr => ?_
  obtain ⟨ws, R⟩ := y
  obtain ⟨okw, hR, hz⟩ := hy
  have okw : OkWs ws := okw
  have hz : R.length ≤ 100 := hz
  have hlen : ∀ i, ((R.take i).flatMap fun k => (Wf ws k).sh).length ≤ 400 := fun i => by
    have h1 := flatMap_len (f := fun k => (Wf ws k).sh) (n := 4) (xs := R.take i) fun k hk => (okw.w _ (wf_mem (hR k (List.mem_of_mem_take hk)))).len
    have h2 : (R.take i).length ≤ R.length := by rw [List.length_take]; omega
    omega
  refine dss_newL (i := 2) (fun a ha => ?_) sc_shades_of.nd
  refine dss_for (di_list (f := natD) (xs := R) (de_var 1 rfl)) [3] (fun k => [isD (natD k)]) (fun k _ => dg_name 3 sc_shades_of.nd rfl (Or.inl rfl))
    (fun i s h => s = [some (isD (eWants ws)), some (isD (.list (R.map natD))), some (isV (.ref a)), none] ∧ h = [⟨a, oL (((R.take i).flatMap fun k => (Wf ws k).sh).map .str)⟩]) ⟨rfl, rfl⟩ ?_ ?_
  · rintro i k s h hk ⟨rfl, rfl⟩
    have hkl := hR k (List.mem_of_getElem? hk)
    have he : ∀ {X : Cx}, True := fun {_} => trivial
    refine dss_extT (es' := (Wf ws k).sh.map .str) 0 (de_var 2 rfl) (de_ixT (d := .tuple ((Wf ws k).sh.map .str)) ix1 (de_ixT (d := eWant (Wf ws k)) (atI_nat' (by rw [List.getElem?_map, wf_get hkl] <;> rfl)) (de_var 0 rfl) (de_var 3 rfl)) de_int) rfl ?_ ?_ (hm := pe_bm PySem.F.plainAttrs_list PySem.F.slot_list_extend PySem.F.type_list_extend mt_extT (de_var 2 rfl) (da_cons (de_ixT (d := .tuple ((Wf ws k).sh.map .str)) ix1 (de_ixT (d := eWant (Wf ws k)) (atI_nat' (by rw [List.getElem?_map, wf_get hkl] <;> rfl)) (de_var 0 rfl) (de_var 3 rfl)) de_int) da_nil))
    · have h1 := hlen i
      have h2 := (okw.w _ (wf_mem hkl)).len
      rw [List.length_map, List.length_map]; omega
    · refine dss_nil (wk_mask [true, true, true, false] _) ⟨rfl, ?_⟩
      rw [flatMap_take hk, List.map_append]; rfl
  · rintro s h ⟨rfl, rfl⟩
    rw [List.take_length]
    have h1 := hlen R.length
    rw [List.take_length] at h1
    refine dss_freeze (hp := []) (hp' := []) 2 rfl ha ?_
    exact dss_ret (A := isD (.tuple ((sSet (R.flatMap fun k => (Wf ws k).sh)).map .str))) (hp1 := []) (de_callTy call_tuple_of (rc_tupleL (ds := (sSet (R.flatMap fun k => (Wf ws k).sh)).map .str)) Y.tuple bt_tuple (da_cons (de_callB (cr_sortX rfl (hu64 hr)) (rc_sortX (l := R.flatMap fun k => (Wf ws k).sh) (Nat.le_trans h1 (by decide))) Y.sorted bt_sorted (da_cons (de_callTy (cr_setX rfl) (rc_setX (l := R.flatMap fun k => (Wf ws k).sh) (Nat.le_trans h1 (by decide))) Y.set bt_set (da_cons (de_var 2 rfl) da_nil)) da_nil)) da_nil)) fun v B h => ⟨rfl, h⟩
end
end PK
end
section
set_option Elab.async false
set_option linter.all false
set_option maxRecDepth 100000
set_option maxHeartbeats 2000000
/-! the maths of a deal -/
namespace PK
open PySem PySem.Spec PyProof.Rows L2
open PM (Want manyP manyF ls rs letsL aget aput keys dg Closed Inv)
open PySem.W (AllAlike Sortable dataLe)
theorem srt_up {α : Type} (enc : α → PyData) (l : List α) : (srt enc l).Pairwise fun a b => dataLe false enc a b = true := by
  unfold srt dataLe
  exact PySem.W.sort_pairwise (PySem.W.sortLe_total _ _ _) l
theorem ls_perm {α : Type} {F : α → Int} {l m : List α} (h : l.Perm m) : ls l F = ls m F := by
  induction h with
  | nil => rfl
  | cons a _ ih => rw [PM.ls_cons, PM.ls_cons, ih]
  | swap a b l => rw [PM.ls_cons, PM.ls_cons, PM.ls_cons, PM.ls_cons]; omega
  | trans _ _ h1 h2 => exact h1.trans h2
theorem sum_ls {α : Type} (l : List α) (F : α → Int) : (l.map F).sum = ls l F := rfl
theorem ls_flatMap {α β : Type} (F : β → Int) (f : α → List β) : ∀ l : List α, ls (l.flatMap f) F = ls l fun a => ls (f a) F
  | [] => rfl
  | a :: l => by rw [List.flatMap_cons, PM.ls_append, PM.ls_cons, ls_flatMap F f l]
theorem ls_single {α : Type} [DecidableEq α] {F : α → Int} {a : α} (h0 : 0 ≤ F a) : ∀ l : List α, l.Nodup → ls l (fun x => if x = a then F x else 0) ≤ F a
  | [], _ => by rw [PM.ls_nil]; exact h0
  | x :: l, hn => by
    rw [List.nodup_cons] at hn
    rw [PM.ls_cons]
    by_cases q : x = a
    · subst q
      rw [if_pos rfl]
      have : ls l (fun y => if y = x then F y else 0) = ls l (fun _ => 0) := PM.ls_congr fun y hy => if_neg fun e => hn.1 (by rw [← e]; exact hy)
      rw [this, PM.ls_zero]; omega
    · rw [if_neg q]
      have := ls_single h0 l hn.2
      omega
theorem lts_of {a b : Str} (h : ¬ b.cps.toList < a.cps.toList) (hne : a ≠ b) : ltS a b := by
  unfold ltS
  have h1 : a.cps.toList ≤ b.cps.toList := List.not_lt.mp h
  rcases Classical.em (a.cps.toList < b.cps.toList) with h2 | h2
  · exact h2
  · exact absurd (str_ext (List.le_antisymm h1 (List.not_lt.mp h2))) hne
theorem nodup_map_on {α β : Type} {f : α → β} {l : List α} (h : ∀ a ∈ l, ∀ b ∈ l, f a = f b → a = b) (hn : l.Nodup) : (l.map f).Nodup :=
  List.pairwise_map.mpr (List.Pairwise.imp_of_mem (fun ha hb hne e => hne (h _ ha _ hb e)) hn)
section
variable {d : DP} {f : Str}
def giftL (d : DP) : List (Str × Int) := ((keys d).filter fun x => decide (0 < dg d x)).map fun x => (x.2, dg d x)
theorem gift_perm (d : DP) : (giftOf d).Perm (giftL d) := srt_perm _ _
theorem gift_mem {p : Str × Int} (h : p ∈ giftOf d) : ∃ x ∈ keys d, p = (x.2, dg d x) ∧ 0 < dg d x := by
  obtain ⟨x, hx, e⟩ := List.mem_map.mp ((gift_perm d).mem_iff.mp h)
  obtain ⟨h1, h2⟩ := List.mem_filter.mp hx
  exact ⟨x, h1, e.symm, of_decide_eq_true h2⟩
theorem gift_len (d : DP) : (giftOf d).length ≤ d.length := by
  rw [(gift_perm d).length_eq]
  unfold giftL
  rw [List.length_map]
  have := List.length_filter_le (fun x => decide (0 < dg d x)) (keys d)
  unfold keys at this
  rw [List.length_map] at this
  exact this
theorem gift_up (hn : (keys d).Nodup) (hf : ∀ x ∈ keys d, x.1 = f) : (giftOf d).Pairwise fun p q => ltS p.1 q.1 := by
  have h1 := srt_up ePair (giftL d)
  have h2 : ((giftOf d).map (·.1)).Nodup := by
    refine ((gift_perm d).map (·.1)).nodup_iff.mpr ?_
    unfold giftL
    rw [List.map_map]
    refine nodup_map_on (fun a ha b hb e => ?_) (hn.filter _)
    have e1 := hf a (List.mem_filter.mp ha).1
    have e2 := hf b (List.mem_filter.mp hb).1
    exact Prod.ext (e1.trans e2.symm) e
  have h3 := List.pairwise_map.mp h2
  refine (List.Pairwise.and h1 h3).imp fun {p q} hpq => ?_
  obtain ⟨a1, a2⟩ := hpq
  refine lts_of (fun hlt => ?_) a2
  have e : PySem.W.dataLt (ePair q) (ePair p) = true := by
    unfold ePair
    rw [PySem.W.dataLt_pair (by simp [PySem.W.alike]) (by simp [PySem.W.alike]), if_neg, PySem.W.dataLt_str]
    · exact decide_eq_true hlt
    · simp only [PyData.eqv]
      intro z
      exact a2 (by simpa using z : q.1 = p.1).symm
  have a1' : (!PySem.W.dataLt (ePair q) (ePair p)) = true := a1
  rw [e] at a1'
  cases a1'
theorem gift_sum (hn : (keys d).Nodup) (h0 : ∀ kv ∈ d, 0 ≤ kv.2) : ((giftOf d).map (·.2)).sum = PM.dsum d := by
  rw [sum_ls, ls_perm (gift_perm d)]
  unfold giftL
  rw [PM.ls_map, PM.ls_filter]
  have e : ls (keys d) (fun x => if decide (0 < dg d x) = true then dg d x else 0) = ls (keys d) (dg d) := PM.ls_congr fun x _ => by
    have := PM.dg_nonneg h0 x
    by_cases q : 0 < dg d x
    · rw [if_pos (decide_eq_true q)]
    · rw [if_neg (by simpa using q)]; omega
  rw [e]
  unfold keys
  rw [PM.ls_map]
  unfold PM.dsum
  exact PM.ls_congr fun kv hkv => PM.dg_of_mem hn hkv
theorem gift_shade (hn : (keys d).Nodup) (h0 : ∀ kv ∈ d, 0 ≤ kv.2) (hf : ∀ x ∈ keys d, x.1 = f) (f' s : Str) : manyP ((giftOf d).map fun p => (f, p.1, p.2)) f' s ≤ dg d (f', s) := by
  unfold manyP
  rw [PM.ls_filter, PM.ls_map, ls_perm (gift_perm d)]
  unfold giftL
  rw [PM.ls_map]
  have h := ls_single (F := dg d) (a := (f', s)) (PM.dg_nonneg h0 _) _ (hn.filter fun x => decide (0 < dg d x))
  refine Int.le_trans (Int.le_of_eq (PM.ls_congr fun x hx => ?_)) h
  have e := hf x (List.mem_filter.mp hx).1
  by_cases q : x = (f', s)
  · subst q
    rw [if_pos rfl, if_pos]
    simp only [Bool.and_eq_true, decide_eq_true_eq]
    exact ⟨e.symm, trivial⟩
  · rw [if_neg q, if_neg]
    intro z
    simp only [Bool.and_eq_true, decide_eq_true_eq] at z
    exact q (Prod.ext (e.trans z.1) z.2)
end
def givenRows (ws : List Wt) (gs : List Gf) : Rws := (ws.zip gs).flatMap fun q => q.2.map fun p => (q.1.f, p.1, p.2)
def Serves (rows : Rws) (ws : List Wt) (gs : List Gf) : Prop := ∀ f s, manyP (givenRows ws gs) f s ≤ manyP rows f s
theorem manyP_ls {rows : Rws} {f s : Str} : manyP rows f s = ls rows fun r => if (decide (r.1 = f) && decide (r.2.1 = s)) = true then r.2.2 else 0 := by
  unfold manyP; rw [PM.ls_filter]
theorem manyP_flatMap {α : Type} {g : α → Rws} {l : List α} {f s : Str} : manyP (l.flatMap g) f s = ls l fun a => manyP (g a) f s := by
  rw [manyP_ls, ls_flatMap]
  exact PM.ls_congr fun a _ => manyP_ls.symm
theorem zip_getD {ws : List Wt} {gs : List Gf} {i : Nat} (h : gs.length = ws.length) (hi : i < ws.length) : (ws.zip gs).getD i (dW, []) = (Wf ws i, gs.getD i []) := by
  rw [List.getD_eq_getElem?_getD, List.getElem?_zip_eq_some (z := (Wf ws i, gs.getD i [])) |>.mpr ⟨wf_get hi, getD_get (by omega)⟩]; rfl
theorem letsL_snd {rows : Rws} {w : Wt} (h1 : OkR rows) (h2 : OkW w) {x : Str × Str} (h : x ∈ letsL rows w) : x.2 ∈ shadesL ∧ (w.sh ≠ [] → x.2 ∈ w.sh) := by
  unfold letsL at h
  split at h
  · rename_i e
    obtain ⟨r, hr, rfl⟩ := List.mem_map.mp h
    exact ⟨h1.s r (List.mem_filter.mp hr).1, fun z => absurd e z⟩
  · obtain ⟨s, hs, rfl⟩ := List.mem_map.mp h
    exact ⟨h2.sh.subset hs, fun _ => hs⟩
section
variable {rows : Rws} {ws : List Wt} {gs : List DP} {l : DP} {lk : Nat → Int} {R : List Nat}
theorem deal_dealt (okr : OkR rows) (okw : OkWs ws) (E : LedEnd rows ws gs l lk []) : OkGv ws (gs.map giftOf) ∧ Serves rows ws (gs.map giftOf) := by
  have hlg : (gs.map giftOf).length = ws.length := by rw [List.length_map]; exact E.lg
  have hlk : ∀ i, i < ws.length → lk i = 0 := fun i hi => by
    have h1 := E.inv.k0 i hi
    rcases Int.lt_or_le 0 (lk i) with h | h
    · exact absurd (E.lks i hi h) (by simp)
    · omega
  have hform : ∀ i, i < ws.length → ∀ x ∈ keys (Gg gs i), x ∈ letsL rows (Wf ws i) := fun i hi x hx => by
    obtain ⟨kv, hkv, rfl⟩ := List.mem_map.mp hx
    exact E.inv.lets i hi kv hkv
  have hat : ∀ i, i < ws.length → (gs.map giftOf).getD i [] = giftOf (Gg gs i) := fun i hi => by
    rw [List.getD_eq_getElem?_getD, List.getElem?_map, getD_get (d := []) (by rw [E.lg]; exact hi)]; rfl
  have hzip : ∀ q ∈ ws.zip (gs.map giftOf), ∃ i, i < ws.length ∧ q = (Wf ws i, giftOf (Gg gs i)) := fun q hq => by
    obtain ⟨i, hi⟩ := List.getElem?_of_mem hq
    obtain ⟨h1, h2⟩ := List.getElem?_zip_eq_some.mp hi
    have hil : i < ws.length := (List.getElem?_eq_some_iff.mp h1).1
    refine ⟨i, hil, Prod.ext ?_ ?_⟩
    · have := wf_get hil; rw [h1] at this; exact Option.some.inj this
    · have := getD_get (d := []) (xs := gs.map giftOf) (by rw [hlg]; exact hil)
      rw [h2, hat i hil] at this; exact Option.some.inj this
  refine ⟨⟨hlg, fun q hq => ?_, fun q hq => ?_⟩, fun f s => ?_⟩
  · obtain ⟨i, hi, rfl⟩ := hzip q hq
    have okwi := okw.w _ (wf_mem hi)
    have hk12 : (Gg gs i).length ≤ 12 := by
      have h1 := PM.len_sub _ _ (E.inv.gn i hi) (hform i hi)
      have h2 := lets_len okr okwi
      unfold keys at h1
      rw [List.length_map] at h1
      omega
    have h1 := gift_len (Gg gs i)
    refine ⟨by show (giftOf (Gg gs i)).length ≤ 100; omega, fun p hp => ?_, fun p hp => ?_, gift_up (f := (Wf ws i).f) (E.inv.gn i hi) fun x hx => PM.letsL_form (hform i hi x hx), ?_⟩
    · obtain ⟨x, hx, rfl, _⟩ := gift_mem hp
      exact (letsL_snd okr okwi (hform i hi x hx)).1
    · obtain ⟨x, hx, rfl, h⟩ := gift_mem hp
      exact h
    · have h2 := E.inv.sum i hi
      have h3 := hlk i hi
      have h4 := gift_sum (E.inv.gn i hi) (E.inv.g0 i hi)
      show ((giftOf (Gg gs i)).map (·.2)).sum = (Wf ws i).n
      omega
  · obtain ⟨i, hi, rfl⟩ := hzip q hq
    intro hs p hp
    obtain ⟨x, hx, rfl, _⟩ := gift_mem hp
    exact (letsL_snd okr (okw.w _ (wf_mem hi)) (hform i hi x hx)).2 hs
  · unfold givenRows
    rw [manyP_flatMap, PM.ls_getD (dW, [])]
    have hl : (ws.zip (gs.map giftOf)).length = ws.length := by rw [List.length_zip, hlg]; omega
    rw [hl]
    have h1 := E.inv.tot (f, s)
    have h1 : dg l (f, s) + rs ws.length (fun i => dg (Gg gs i) (f, s)) = manyP rows f s := h1
    have h2 := PM.dg_nonneg E.inv.l0 (f, s)
    have h3 : rs ws.length (fun i => manyP (((ws.zip (gs.map giftOf)).getD i (dW, [])).2.map fun p => (((ws.zip (gs.map giftOf)).getD i (dW, [])).1.f, p.1, p.2)) f s) ≤ rs ws.length (fun i => dg (Gg gs i) (f, s)) := PM.rs_le fun i hi => by
      rw [zip_getD hlg hi, hat i hi]
      exact gift_shade (E.inv.gn i hi) (E.inv.g0 i hi) (fun x hx => PM.letsL_form (hform i hi x hx)) f s
    exact Int.le_trans h3 (by omega)
theorem wanted_none (f : Str) : wantedD ws f none = PM.wantedF (Wf ws) ws.length f := by
  show ls (ws.filter fun w => decide (w.f = f)) (·.n) = _
  unfold PM.wantedF
  rw [PM.ls_filter, PM.ls_getD dW]
  exact PM.rs_congr fun i _ => by
    by_cases q : (Wf ws i).f = f
    · rw [if_pos q, if_pos (decide_eq_true q)]
    · rw [if_neg q, if_neg (by simpa using q)]
theorem wanted_some (f : Str) (shs : List Str) : wantedD ws f (some shs) = PM.wantedS (Wf ws) ws.length f shs := by
  show ls ((ws.filter fun w => decide (w.f = f)).filter fun w => !w.sh.isEmpty && w.sh.all fun s => decide (s ∈ shs)) (·.n) = _
  unfold PM.wantedS
  rw [PM.ls_filter, PM.ls_filter, PM.ls_getD dW]
  refine PM.rs_congr fun i _ => ?_
  by_cases q : (Wf ws i).f = f ∧ (Wf ws i).sh ≠ [] ∧ ∀ s ∈ (Wf ws i).sh, s ∈ shs
  · rw [if_pos q, if_pos (decide_eq_true q.1), if_pos]
    rw [Bool.and_eq_true]
    refine ⟨?_, List.all_eq_true.mpr fun s hs => decide_eq_true (q.2.2 s hs)⟩
    have h := q.2.1
    show (!(Wf ws i).sh.isEmpty) = true
    cases hh : (Wf ws i).sh with
    | nil => exact absurd hh h
    | cons a b => rfl
  · rw [if_neg q]
    by_cases q1 : (Wf ws i).f = f
    · rw [if_pos (decide_eq_true q1), if_neg]
      intro z
      rw [Bool.and_eq_true] at z
      refine q ⟨q1, fun e => ?_, fun s hs => of_decide_eq_true (List.all_eq_true.mp z.2 s hs)⟩
      have z1 : (!(Wf ws i).sh.isEmpty) = true := z.1
      rw [e] at z1; cases z1
    · rw [if_neg (by simpa using q1)]
theorem ssets (L : List Str) : (sSet L).Pairwise ltS ∧ (sSet L).Nodup ∧ ∀ x, x ∈ sSet L ↔ x ∈ L := by
  have hp : (sSet L).Perm (ddp L) := srt_perm _ _
  have hn : (sSet L).Nodup := hp.nodup_iff.mpr (nodup_ddp L)
  refine ⟨?_, hn, fun x => hp.mem_iff.trans mem_ddp⟩
  have h1 := srt_up dStr (ddp L)
  refine (List.Pairwise.and h1 hn).imp fun {a b} h => lts_of (fun hlt => ?_) h.2
  have h2 : (!PySem.W.dataLt (dStr b) (dStr a)) = true := h.1
  unfold dStr at h2
  rw [PySem.W.dataLt_str, decide_eq_true hlt] at h2
  cases h2
theorem deal_bar (okr : OkR rows) (okw : OkWs ws) (E : LedEnd rows ws gs l lk R) {r0 : Nat} (hr0 : r0 ∈ R) :
    ((∃ k ∈ R, (Wf ws k).f = (Wf ws r0).f ∧ (Wf ws k).sh = []) → IsBar rows ws (Wf ws r0).f none) ∧
    ((∀ k ∈ R, (Wf ws k).f = (Wf ws r0).f → (Wf ws k).sh ≠ []) → IsBar rows ws (Wf ws r0).f (some (sSet ((R.filter fun k => decide ((Wf ws k).f = (Wf ws r0).f)).flatMap fun k => (Wf ws k).sh)))) := by
  obtain ⟨k, hk, hlk, hkf⟩ := E.fm r0 hr0
  have hW : ∀ i, i < ws.length → 0 ≤ (Wf ws i).n := fun i hi => by have := (okw.w _ (wf_mem hi)).n1; omega
  have C : Closed rows (Wf ws) ws.length (Gg gs) l fun i => decide (i ∈ R) = true := E.cl.iff fun i => (decide_eq_true_iff).symm
  have hfm := (okw.w _ (wf_mem (E.lt r0 hr0))).f
  refine ⟨fun ⟨j, hj, hjf, hjs⟩ => ⟨hfm, ⟨(fun l h => by cases h), (fun l h => by cases h), (fun l h => by cases h), (fun l h => by cases h)⟩, ?_⟩, fun hs => ?_⟩
  · rw [wanted_none]
    exact PM.bar_any E.inv okr.nd hW C (E.lt k hk) (decide_eq_true hk) hkf hlk (E.lt j hj) (decide_eq_true hj) hjf hjs
  · generalize hL : ((R.filter fun k => decide ((Wf ws k).f = (Wf ws r0).f)).flatMap fun k => (Wf ws k).sh) = L
    obtain ⟨s1, s2, s3⟩ := ssets L
    have hin : ∀ s, s ∈ sSet L ↔ ∃ i, i < ws.length ∧ decide (i ∈ R) = true ∧ (Wf ws i).f = (Wf ws r0).f ∧ s ∈ (Wf ws i).sh := fun s => by
      rw [s3, ← hL, List.mem_flatMap]
      constructor
      · rintro ⟨i, hi, hs⟩
        obtain ⟨h1, h2⟩ := List.mem_filter.mp hi
        exact ⟨i, E.lt i h1, decide_eq_true h1, of_decide_eq_true h2, hs⟩
      · rintro ⟨i, _, h1, h2, h3⟩
        exact ⟨i, List.mem_filter.mpr ⟨of_decide_eq_true h1, decide_eq_true h2⟩, h3⟩
    have hsh : ∀ s ∈ sSet L, s ∈ shadesL := fun s h => by
      obtain ⟨i, hi, _, _, h3⟩ := (hin s).mp h
      exact (okw.w _ (wf_mem hi)).sh.subset h3
    refine ⟨hfm, ⟨fun l h e => ?_, fun l h => ?_, fun l h => ?_, fun l h => ?_⟩, ?_⟩
    · cases h
      have hks := hs k hk hkf
      cases hsk : (Wf ws k).sh with
      | nil => exact hks hsk
      | cons a b =>
        have : a ∈ sSet L := (hin a).mpr ⟨k, E.lt k hk, decide_eq_true hk, hkf, by rw [hsk]; exact List.mem_cons_self ..⟩
        rw [e] at this; cases this
    · cases h; exact hsh
    · cases h; exact s1
    · cases h
      have := PM.len_sub (sSet L) shadesL s2 hsh
      exact Nat.le_trans this (by decide)
    · rw [wanted_some]
      exact PM.bar_some E.inv hW C (E.lt k hk) (decide_eq_true hk) hkf hlk s2 (fun i hi hT hf => hs i (of_decide_eq_true hT) hf) hin
end
end PK
end
section
set_option Elab.async false
set_option linter.all false
set_option maxRecDepth 100000
set_option maxHeartbeats 8000000
namespace PK
open PySem PySem.Spec PyProof.Rows L2
open PM (Want manyP manyF ls letsL aget aput keys dg Spr SprEnd Cl Gone Path Way Inv Closed applyG stepG)
open PySem.W (AllAlike Sortable dataLe)
inductive DealEnd (rows : Rws) (ws : List Wt) : List Gf ⊕ (Str × Option (List Str)) → Prop
  | dealt {gs : List Gf} : OkGv ws gs → Serves rows ws gs → DealEnd rows ws (.inl gs)
  | bar {f : Str} {o : Option (List Str)} : IsBar rows ws f o → DealEnd rows ws (.inr (f, o))
def eDeal : List Gf ⊕ (Str × Option (List Str)) → PyData
  | .inl gs => .tuple [.str "dealt", eGiven gs]
  | .inr q => .tuple [.str "bar", eBarT q.1 q.2]
abbrev spDeal (K : PySem.W.Frag) : Sp := spP (γ := Rws × List Wt) (fun y => [isHeap (HC K) y.1, isD (eWants y.2)]) (fun y => OkR y.1 ∧ OkWs y.2) (fun y => exA fun r => andA (DealEnd y.1 y.2 r) (isD (eDeal r)))
theorem canLay_ints : ∀ R : List Nat, PyData.canLayAll0 (R.map natD) = true
  | [] => rfl
  | k :: R => by
    have := canLay_ints R
    simp [PyData.canLayAll0, PyData.canLay0, this]
theorem depth_nats : ∀ R : List Nat, PyData.depthAll (R.map natD) = 0
  | [] => rfl
  | k :: R => by
    have := depth_nats R
    simp [PyData.depthAll, PyData.depth, this]
theorem shaped_nats (R : List Nat) : SeqAt.shaped (.list (R.map natD)) = true := by
  unfold SeqAt.shaped
  rw [Bool.and_eq_true]
  exact ⟨canLay_ints R, by simp [PyData.depth, depth_nats]⟩
abbrev LedQ := List Addr × List DP × Addr × DP × Addr × (Nat → Int) × List Nat
section
variable {P : Program} {w : World} {K : PySem.W.Frag} {mg : Str → Option Value} {base : Heap} {f : Addr} {fd : FuncData}
theorem ok_deal (Y : Bi mg) (c1 : C8.Cal P w K mg base 5 "led" (spLed K) []) (c2 : C8.Cal P w K mg base 1 "as_gift" spAsGift []) (c3 : C8.Cal P w K mg base 1 "shades_of" spShades []) (F : FnD K d_deal f fd) : FnOk P w K mg base CX0 6 f fd ["heap", "wants"] (spDeal K) := by
  refine ok_ds F sc_deal _ _ _ _ (fun _ => rfl) fun y hy cdv A outer s H E hr => ?_
  obtain ⟨rows, ws⟩ := y
  obtain ⟨okr, okw⟩ := hy
  have okr : OkR rows := okr
  have okw : OkWs ws := okw
  have hn6 := okw.len
  refine dss_unp (α := { q : LedQ // LedEnd rows ws q.2.1 q.2.2.2.1 q.2.2.2.2.2.1 q.2.2.2.2.2.2 ∧ q.1.length = ws.length }) (As := fun q => [gA q.1.1, isV (.ref q.1.2.2.1), isV (.ref q.1.2.2.2.2.1), isD (.list (q.1.2.2.2.2.2.2.map natD))]) (Cs := fun q => ledHp q.1.1 q.1.2.1 q.1.2.2.1 q.1.2.2.2.1 q.1.2.2.2.2.1 ws.length q.1.2.2.2.2.2.1) (js := [2, 3, 4, 5])
    (dx_call0 c1 hr (by omega) (rows, ws) ⟨okr, okw⟩ (da_cons (de_var 0 rfl) (da_cons (de_var 1 rfl) da_nil)))
    (fun v B hp' h => by obtain ⟨as, gs, aL, l, aK, lk, R, h1, h2, h3, h4⟩ := h; exact ⟨⟨(as, gs, aL, l, aK, lk, R), h1, h2⟩, h4, h3⟩)
    (fun q => dgA4 rfl (fun A => dg_name 2 sc_deal.nd rfl (Or.inl rfl)) (fun A => dg_name 3 sc_deal.nd rfl (Or.inl rfl)) (fun A => dg_name 4 sc_deal.nd rfl (Or.inl rfl)) (fun A => dg_name 5 sc_deal.nd rfl (Or.inl rfl))) ?_
  rintro ⟨⟨as, gs, aL, l, aK, lk, R⟩, hE, hal⟩
  have hE : LedEnd rows ws gs l lk R := hE
  have hal : as.length = ws.length := hal
  have hlg := hE.lg
  refine dss_ifr (b := R.isEmpty) (dt_eq (dt_cmp (op_eqD (hu64 hr)) (re_eqD (d := .list (R.map natD)) (e := .list []) (shaped_nats R) rfl) (de_var 5 rfl) (de_lst (ds := []) da_nil)) (by rw [eqvL_nil]; simp)) (fun hb => ?_) (fun hb => ?_)
  · have hR : R = [] := List.isEmpty_iff.mp hb
    subst hR
    obtain ⟨hd1, hd2⟩ := deal_dealt okr okw hE
    refine dss_ret (A := isD (eDeal (.inl (gs.map giftOf)))) (hp1 := []) (de_drop (hp1 := []) (hp2 := ledHp as gs aL l aK ws.length lk) (de_tup (ds := [.str "dealt", eGiven (gs.map giftOf)]) (da_cons de_str (da_cons (de_callTy call_tuple_of (rc_tupleL (ds := (gs.map giftOf).map eGift)) Y.tuple bt_tuple (da_cons (de_eq (de_lcD (xs := as.zip gs) [("some", 7)] [7] (fun q => [isV (.ref q.1)]) (fun _ => true) (fun q => eGift (giftOf q.2)) sc_deal.nd
      (di_listA (f := fun q : Addr × DP => isV (.ref q.1)) (hp1 := ledHp as gs aL l aK ws.length lk) ?_) (by show blkC N_deal (defScope s_deal) _ _ = true; decide +kernel) (fun q _ s H C cl fp => dg_name 7 sc_deal.nd rfl (Or.inl rfl)) (fun q _ s H C cl fp => dts_nil) (fun q hq _ s H C cl fp => ?_) ?_) ?_) da_nil)) da_nil)))) fun v B h => ⟨rfl, _, .dealt hd1 hd2, h⟩
    · have eL : (as.zip gs).map (fun q : Addr × DP => isV (.ref q.1)) = as.map fun a => isV (.ref a) := by
        have e1 := List.map_fst_zip (l₁ := as) (l₂ := gs) (by omega)
        have e2 : (as.zip gs).map (fun q : Addr × DP => isV (.ref q.1)) = ((as.zip gs).map (·.1)).map fun a => isV (.ref a) := by rw [List.map_map]; rfl
        rw [e2]
        exact congrArg (List.map fun a => isV (.ref a)) e1
      rw [eL]
      exact de_var 2 rfl
    · obtain ⟨a, g⟩ := q
      obtain ⟨i, hi⟩ := List.getElem?_of_mem hq
      obtain ⟨h1, h2⟩ := List.getElem?_zip_eq_some.mp hi
      have hil : i < ws.length := by have := (List.getElem?_eq_some_iff.mp h1).1; omega
      have hgg : Gg gs i = g := by
        have := getD_get (d := []) (xs := gs) (i := i) (by omega)
        rw [h2] at this; exact (Option.some.inj this).symm
      have hlen : g.length ≤ 12 := by
        have h3 := PM.len_sub _ _ (hE.inv.gn i hil) fun x hx => by
          obtain ⟨kv, hkv, rfl⟩ := List.mem_map.mp hx
          exact hE.inv.lets i hil kv hkv
        have h4 := lets_len okr (okw.w _ (wf_mem hil))
        rw [hgg] at h3
        unfold keys at h3
        rw [List.length_map] at h3
        omega
      have hm : (⟨a, oT kP .int g⟩ : Cell) ∈ ledHp as gs aL l aK ws.length lk := by
        unfold ledHp
        exact List.mem_append_left _ (List.mem_cons_of_mem _ (List.mem_of_getElem? (gcells_at h1 h2)))
      obtain ⟨s1, s2, hs⟩ := List.append_of_mem hm
      have hp1 : (ledHp as gs aL l aK ws.length lk).Perm ([⟨a, oT kP .int g⟩] ++ (s1 ++ s2)) := by rw [hs]; exact List.perm_middle
      exact de_perm hp1 hp1.symm (de_call (hq := [⟨a, oT kP .int g⟩]) (fr := s1 ++ s2) c2 hr (by omega) (a, g) (by show g.length ≤ 1000; omega) (da_cons (de_var 7 rfl) da_nil) (fun B vs h => by rw [List.append_nil]; exact h) (fun v B hp' h => by exact ⟨h.2, h.1⟩))
    · have h1 : (as.zip gs).length ≤ 6 := by rw [List.length_zip]; omega
      exact Nat.le_trans h1 (by decide)
    · rw [List.filter_eq_self.mpr fun _ _ => rfl, List.map_map]
      have e1 := List.map_snd_zip (l₁ := as) (l₂ := gs) (by omega)
      have e2 : (as.zip gs).map (fun q : Addr × DP => eGift (giftOf q.2)) = ((as.zip gs).map (·.2)).map fun g => eGift (giftOf g) := by rw [List.map_map]; rfl
      rw [e2, e1]; rfl
  · refine dss_drop (hp := []) (hp2 := ledHp as gs aL l aK ws.length lk) ?_
    obtain ⟨r0, hR0⟩ : ∃ r0, R[0]? = some r0 := by
      cases R with
      | nil => cases hb
      | cons r0 R' => exact ⟨r0, rfl⟩
    have hr0 : r0 ∈ R := List.mem_of_getElem? hR0
    have hRl : R.length ≤ 6 := hE.len
    have hw : ∀ k, k < ws.length → (ws.map eWant)[k]? = some (eWant (Wf ws k)) := fun k hk => by rw [List.getElem?_map, wf_get hk]; rfl
    have hshp : ∀ k, k < ws.length → SeqAt.shaped (.tuple ((Wf ws k).sh.map .str)) = true := fun k hk => shaped_strs fun s hs => (okw.w _ (wf_mem hk)).sh.subset hs
    obtain ⟨hb1, hb2⟩ := deal_bar okr okw hE hr0
    generalize hfm : (Wf ws r0).f = fm at hb1 hb2
    refine dss_set (i := 6) (A := isS fm) (hp1 := []) (de_eq (de_ixT (d := .str (Wf ws r0).f) ix0 (de_ixT (d := eWant (Wf ws r0)) (atI_nat' (hw r0 (hE.lt r0 hr0))) (de_var 1 rfl) (de_ixL (ds := R.map natD) (d := natD r0) (i := ((0 : Nat) : Int)) (atI_nat' (by rw [List.getElem?_map, hR0]; rfl)) (de_var 5 rfl) de_int)) de_int) (by rw [hfm])) ?_ sc_deal.nd
    refine dss_lcD (i := 7) (xs := R) [("k", 8)] [8] (fun k => [isD (natD k)]) (fun k => decide ((Wf ws k).f = fm)) natD sc_deal.nd (di_list (f := natD) (hp1 := []) (de_var 5 rfl)) (by show blkC N_deal (defScope s_deal) _ _ = true; decide +kernel) (fun k _ s H C cl fp => dg_name 8 sc_deal.nd rfl (Or.inl rfl))
      (fun k hk s H C cl fp => dts_one (dt_cmp op_eq re_eqS (de_ixT (d := .str (Wf ws k).f) ix0 (de_ixT (d := eWant (Wf ws k)) (atI_nat' (hw k (hE.lt k hk))) (de_var 1 rfl) (de_var 8 rfl)) de_int) (de_var 6 rfl))) (fun k hk _ s H C cl fp => de_var 8 rfl) (Nat.le_trans hRl (by decide)) (by show 7 < 9; decide) ?_
    generalize hS : (R.filter fun k => decide ((Wf ws k).f = fm)) = S at hb2
    have hSR : ∀ k ∈ S, k ∈ R ∧ (Wf ws k).f = fm := fun k hk => by
      rw [← hS] at hk
      obtain ⟨h1, h2⟩ := List.mem_filter.mp hk
      exact ⟨h1, of_decide_eq_true h2⟩
    have hSl : S.length ≤ 6 := by rw [← hS]; exact Nat.le_trans (List.length_filter_le ..) hRl
    refine dss_ifr (b := !((S.filter fun k => (Wf ws k).sh.isEmpty).isEmpty)) (dt_eq (dt_cmp (op_neD (hu64 hr)) (re_neD (d := .list ((S.filter fun k => (Wf ws k).sh.isEmpty).map natD)) (e := .list []) (shaped_nats _) rfl)
      (de_lcD (xs := S) [("k", 8)] [8] (fun k => [isD (natD k)]) (fun k => (Wf ws k).sh.isEmpty) natD sc_deal.nd (di_list (f := natD) (hp1 := []) (de_var 7 rfl)) (by show blkC N_deal (defScope s_deal) _ _ = true; decide +kernel) (fun k _ s H C cl fp => dg_name 8 sc_deal.nd rfl (Or.inl rfl))
      (fun k hk s H C cl fp => dts_one (dt_eq (dt_cmp (op_eqD (hu64 hr)) (re_eqD (d := .tuple ((Wf ws k).sh.map .str)) (e := .tuple []) (hshp k (hE.lt k (hSR k hk).1)) rfl) (de_ixT ix1 (de_ixT (d := eWant (Wf ws k)) (atI_nat' (hw k (hE.lt k (hSR k hk).1))) (de_var 1 rfl) (de_var 8 rfl)) de_int) (de_tup (ds := []) da_nil)) (by rw [eqv_nil]; simp))) (fun k hk _ s H C cl fp => de_var 8 rfl) (Nat.le_trans hSl (by decide))) (de_lst (ds := []) da_nil)) (by rw [eqvL_nil]; simp)) (fun hb3 => ?_) (fun hb3 => ?_)
    · refine dss_ret (A := isD (eDeal (.inr (fm, none)))) (hp1 := []) (de_tup (ds := [.str "bar", eBarT fm none]) (da_cons de_str (da_cons (de_tup (ds := [.str fm, .none]) (da_cons (de_var 6 rfl) (da_cons de_non da_nil))) da_nil))) fun v B h => ⟨rfl, _, .bar (hb1 ?_), h⟩
      cases q : S.filter fun k => (Wf ws k).sh.isEmpty with
      | nil => rw [q] at hb3; cases hb3
      | cons k rest =>
        have hk : k ∈ S.filter fun k => (Wf ws k).sh.isEmpty := by rw [q]; exact List.mem_cons_self ..
        obtain ⟨h1, h2⟩ := List.mem_filter.mp hk
        exact ⟨k, (hSR k h1).1, (hSR k h1).2, List.isEmpty_iff.mp h2⟩
    · refine dss_ret (A := isD (eDeal (.inr (fm, some (sSet (S.flatMap fun k => (Wf ws k).sh)))))) (hp1 := []) (de_tup (ds := [.str "bar", eBarT fm (some (sSet (S.flatMap fun k => (Wf ws k).sh)))]) (da_cons de_str (da_cons (de_tup (ds := [.str fm, .tuple ((sSet (S.flatMap fun k => (Wf ws k).sh)).map .str)]) (da_cons (de_var 6 rfl) (da_cons (de_callP c3 (j := 5) hr (by omega) (ws, S) ⟨okw, fun k hk => hE.lt k (hSR k hk).1, by show S.length ≤ 100; omega⟩ (da_cons (de_var 1 rfl) (da_cons (de_var 7 rfl) da_nil))) da_nil))) da_nil))) fun v B h => ⟨rfl, _, .bar (hb2 fun k hk hkf hs => ?_), h⟩
      have hk2 : k ∈ S.filter fun k => (Wf ws k).sh.isEmpty := List.mem_filter.mpr ⟨by rw [← hS]; exact List.mem_filter.mpr ⟨hk, decide_eq_true hkf⟩, by rw [hs]; rfl⟩
      cases q : S.filter fun k => (Wf ws k).sh.isEmpty with
      | nil => rw [q] at hk2; cases hk2
      | cons a b => rw [q] at hb3; cases hb3
end
end PK
end
section
set_option Elab.async false
set_option linter.all false
set_option maxRecDepth 100000
set_option maxHeartbeats 8000000
namespace PK
open PySem PySem.Spec PyProof.Rows L2
open PM (Want manyP manyF ls letsL)
/-! ### the list taken -/
theorem optN_flat (tk : List (Option Nat)) : (tk.map optN).all flatD = true := by
  rw [List.all_map, List.all_eq_true]
  intro o _
  cases o <;> rfl
theorem inV_non (tk : List (Option Nat)) : inD .none (tk.map optN) = tk.any (·.isNone) := by
  unfold inD inV
  rw [List.map_map, List.any_map]
  congr 1
  funext o
  cases o <;> rfl
theorem rpl_tk {B : Hp} {xs : List V} {tk : List (Option Nat)} (h : RpL B xs (tk.map optN)) : xs = tk.map fun o => toV (optN o) := rpl_map (fun a v h => by cases a <;> cases h <;> rfl) h
section
variable {X : Cx} {sl : SL} {hp : List Cell} {o e : Expr} {apos cpos : Pos} {tk : List (Option Nat)} {k : Nat}
theorem de_indexN (hk : tk[k]? = some none) (hb : ∀ m, m < k → tk[m]? ≠ some none) (hm : PE X (.Call (.Attribute o "index" apos) [e] [] cpos) (tBM X.K "list" (rIndex X.K) (tDE sl hp (isD (.list (tk.map optN))) hp) (tDA sl hp [isD .none] hp))) : DE X (.Call (.Attribute o "index" apos) [e] [] cpos) sl hp (isI (k : Int)) hp :=
  pe_imp hm fun σ H Q ⟨Z, B, S, T, c⟩ => ⟨Z, B, S, T, fun v B1 H1 m1 S1 q1 => by
    cases q1 with
    | lst h r =>
      rename_i a xs
      have e := rpl_tk r
      subst e
      refine ⟨Or.inl ⟨rfl, _, SqL.of (S1.bh _ _ h)⟩, Z, B1, S1, T.mono m1, fun vs B2 H2 m2 S2 q2 => ?_⟩
      obtain ⟨w, rfl, hw⟩ := all2_one q2
      cases hw
      refine ⟨a, _, .non, k, .non, rfl, rfl, SqL.of (S2.bh _ _ (m2 _ _ h)), rfl, ?_, by rw [List.getElem?_map, hk]; rfl, rfl, fun m z' hm hz => ?_, c _ B2 H2 (m1.trans m2) S2 (.int _)⟩
      · rw [List.all_map, List.all_eq_true]
        intro o _
        cases o <;> rfl
      · rw [List.getElem?_map] at hz
        cases q : tk[m]? with
        | none => rw [q] at hz; cases hz
        | some y =>
          rw [q] at hz
          cases y with
          | none => exact absurd q (hb m hm)
          | some j => cases hz; rfl⟩
end
def noneN (tk : List (Option Nat)) : Nat := (tk.filter (·.isNone)).length
theorem noneN_set : ∀ {tk : List (Option Nat)} {k i : Nat}, tk[k]? = some none → noneN (tk.set k (some i)) + 1 = noneN tk
  | [], k, i, h => by simp at h
  | none :: tk, 0, i, h => by simp [noneN]
  | some x :: tk, 0, i, h => by simp at h
  | none :: tk, k + 1, i, h => by
    have := noneN_set (tk := tk) (k := k) (i := i) (by simpa using h)
    simp only [noneN, List.set_cons_succ, List.filter_cons, Option.isNone_none, if_true, List.length_cons] at this ⊢
    omega
  | some x :: tk, k + 1, i, h => by
    have := noneN_set (tk := tk) (k := k) (i := i) (by simpa using h)
    simp only [noneN, List.set_cons_succ, List.filter_cons, Option.isNone_some, Bool.false_eq_true, if_false] at this ⊢
    omega
theorem noneN_zero : ∀ {tk : List (Option Nat)}, tk.any (·.isNone) = false → ∃ cs : List Nat, tk = cs.map some
  | [], _ => ⟨[], rfl⟩
  | none :: tk, h => by cases h
  | some x :: tk, h => by
    obtain ⟨cs, rfl⟩ := noneN_zero (tk := tk) h
    exact ⟨x :: cs, rfl⟩
theorem first_none : ∀ {tk : List (Option Nat)}, tk.any (·.isNone) = true → ∃ k : Nat, tk[k]? = some none ∧ ∀ m : Nat, m < k → tk[m]? ≠ some none
  | [], h => by cases h
  | none :: tk, _ => ⟨0, rfl, fun m (h : m < 0) => absurd h (Nat.not_lt_zero m)⟩
  | some x :: tk, h => by
    obtain ⟨k, h1, h2⟩ := first_none (tk := tk) h
    refine ⟨k + 1, h1, fun m hm => ?_⟩
    cases m with
    | zero => simp
    | succ m => exact h2 m (by omega)
theorem noneN_pos {tk : List (Option Nat)} {k : Nat} (h : tk[k]? = some none) : 0 < noneN tk := by
  have := noneN_set (i := 0) h
  omega
theorem tk_set {tk : List (Option Nat)} {k i : Nat} (hk : k < tk.length) : (cutD (tk.map optN) none (some (k : Int)) ++ [natD i]) ++ cutD (tk.map optN) (some ((k + 1 : Nat) : Int)) none = (tk.set k (some i)).map optN := by
  have e1 : cutD (tk.map optN) none (some (k : Int)) = (tk.take k).map optN := by
    unfold cutD
    rw [HT.sIx_none, HT.sIx_nat, List.drop_zero, List.map_take]
    congr 1
    rw [List.length_map]; omega
  have e2 : cutD (tk.map optN) (some ((k + 1 : Nat) : Int)) none = (tk.drop (k + 1)).map optN := by
    unfold cutD
    rw [HT.sIx_none, HT.sIx_nat, List.map_drop]
    have : min (k + 1) (tk.map optN).length = k + 1 := by rw [List.length_map]; omega
    rw [this]
    refine List.take_of_length_le ?_
    rw [List.length_drop]; omega
  rw [e1, e2, List.set_eq_take_append_cons_drop, if_pos hk, List.map_append, List.map_cons, List.append_assoc]
  rfl
theorem OkT.set {sheet : Sh} {tk : List (Option Nat)} (h : OkT sheet tk) {k i : Nat} {ways : List (List Wt)} (hw : sheet[k]? = some ways) (hi : i < ways.length) : OkT sheet (tk.set k (some i)) where
  len := by rw [List.length_set]; exact h.len
  at_ j ws i' hj hi' := by
    by_cases e : k = j
    · subst e
      rw [hw] at hj
      cases hj
      by_cases hl : k < tk.length
      · rw [List.getElem?_set_self hl] at hi'
        cases hi'; exact hi
      · rw [List.getElem?_eq_none (by rw [List.length_set]; omega)] at hi'; cases hi'
    · rw [List.getElem?_set_ne e] at hi'
      exact h.at_ j ws i' hj hi'
theorem takenW_ok {sheet : Sh} {tk : List (Option Nat)} (ok : OkS sheet) (ot : OkT sheet tk) : OkWs (takenW sheet tk) where
  len := by
    have := takenW_len ok (tk := tk) (sheet.zip tk).length
    rw [List.take_length] at this
    exact this
  w w hw := by
    obtain ⟨q, hq, hw⟩ := List.mem_flatMap.mp hw
    obtain ⟨i, hi⟩ := List.getElem?_of_mem hq
    obtain ⟨h1, h2⟩ := List.getElem?_zip_eq_some.mp hi
    cases q2 : q.2 with
    | none => rw [q2] at hw; cases hw
    | some j =>
      rw [q2] at hw h2
      have hj := ot.at_ i q.1 j h1 h2
      have hw : w ∈ q.1.getD j [] := hw
      exact (ok.way q.1 (List.mem_of_getElem? h1) _ (getD_mem hj)).2 w hw
/-! ### trees -/
inductive TreeOk (rows : Rws) (sheet : Sh) : List (Option Nat) → PyData → Prop
  | bar {tk : List (Option Nat)} {f : Str} {o : Option (List Str)} : IsBar rows (takenW sheet tk) f o → TreeOk rows sheet tk (eNode f o)
  | row {tk : List (Option Nat)} {k : Nat} {ways : List (List Wt)} {ts : List PyData} : tk[k]? = some none → sheet[k]? = some ways → ts.length = ways.length → (∀ i t, ts[i]? = some t → TreeOk rows sheet (tk.set k (some i)) t) → TreeOk rows sheet tk (.tuple (.str "row" :: natD k :: ts))
abbrev SRes := (List Nat × List Gf) ⊕ PyData
def eFound (q : List Nat × List Gf) : PyData := .tuple [.tuple (q.1.map natD), eGiven q.2]
inductive SearchEnd (rows : Rws) (sheet : Sh) (tk : List (Option Nat)) : SRes → Prop
  | found {cs : List Nat} {gs : List Gf} : OkC sheet cs → OkGv (chosenW sheet cs) gs → Serves rows (chosenW sheet cs) gs → SearchEnd rows sheet tk (.inl (cs, gs))
  | tree {t : PyData} : TreeOk rows sheet tk t → SearchEnd rows sheet tk (.inr t)
theorem SearchEnd.any {rows : Rws} {sheet : Sh} {tk tk' : List (Option Nat)} {q : List Nat × List Gf} (h : SearchEnd rows sheet tk (.inl q)) : SearchEnd rows sheet tk' (.inl q) := by
  cases h with
  | found h1 h2 h3 => exact .found h1 h2 h3
def rF : SRes → PyData
  | .inl q => eFound q
  | .inr _ => .none
def rT : SRes → PyData
  | .inl _ => .none
  | .inr t => t
abbrev eSRes (r : SRes) : PyData := .tuple [rF r, rT r]
def dW_ : List Gf ⊕ (Str × Option (List Str)) → PyData
  | .inl _ => .str "dealt"
  | .inr _ => .str "bar"
def dT_ : List Gf ⊕ (Str × Option (List Str)) → PyData
  | .inl gs => eGiven gs
  | .inr q => eBarT q.1 q.2
theorem eDeal_eq (r) : eDeal r = .tuple [dW_ r, dT_ r] := by cases r <;> rfl
abbrev spSearched (K : PySem.W.Frag) (m : Nat) : Sp := spP (γ := Rws × Sh × List (Option Nat)) (fun y => [isHeap (HC K) y.1, isD (eSheet y.2.1), isD (eTk y.2.2)]) (fun y => OkR y.1 ∧ OkS y.2.1 ∧ OkT y.2.1 y.2.2 ∧ noneN y.2.2 = m) (fun y => exA fun r => andA (SearchEnd y.1 y.2.1 y.2.2 r) (isD (eSRes r)))
abbrev spByCases (K : PySem.W.Frag) (m : Nat) : Sp := spP (γ := Rws × Sh × List (Option Nat) × Nat) (fun y => [isHeap (HC K) y.1, isD (eSheet y.2.1), isD (eTk y.2.2.1), isI (y.2.2.2 : Int)]) (fun y => OkR y.1 ∧ OkS y.2.1 ∧ OkT y.2.1 y.2.2.1 ∧ noneN y.2.2.1 = m + 1 ∧ y.2.2.1[y.2.2.2]? = some none) (fun y => exA fun r => andA (SearchEnd y.1 y.2.1 y.2.2.1 r) (isD (eSRes r)))
section
variable {P : Program} {w : World} {K : PySem.W.Frag} {mg : Str → Option Value} {base : Heap} {f : Addr} {fd : FuncData}
theorem ok_searched (m : Nat) (Y : Bi mg) (c1 : C8.Cal P w K mg base 6 "deal" (spDeal K) []) (c2 : C8.Cal P w K mg base 1 "taken_wants" spTaken []) (c3 : ∀ n, m = n + 1 → C8.Cal P w K mg base (2 * n + 8) "by_cases" (spByCases K n) []) (F : FnD K d_searched f fd) : FnOk P w K mg base CX0 (2 * m + 7) f fd ["heap", "sheet", "taken"] (spSearched K m) := by
  refine ok_ds F sc_searched _ _ _ _ (fun _ => rfl) fun y hy cdv A outer s H E hr => ?_
  obtain ⟨rows, sheet, tk⟩ := y
  obtain ⟨okr, oks, okt, hm⟩ := hy
  have okr : OkR rows := okr
  have oks : OkS sheet := oks
  have okt : OkT sheet tk := okt
  have hm : noneN tk = m := hm
  have htl : tk.length ≤ 3 := by rw [okt.len]; exact oks.len
  refine dss_unp (α := { r // DealEnd rows (takenW sheet tk) r }) (As := fun r => [isD (dW_ r.1), isD (dT_ r.1)]) (Cs := fun _ => []) (js := [3, 4]) (dx_of (A := (exA fun r => andA (DealEnd rows (takenW sheet tk) r) (isD (eDeal r)))) (hp1 := []) (de_callP c1 hr (by omega) (rows, takenW sheet tk) ⟨okr, takenW_ok oks okt⟩ (da_cons (de_var 0 rfl) (da_cons (de_callP c2 hr (by omega) (sheet, tk) ⟨oks, okt⟩ (da_cons (de_var 1 rfl) (da_cons (de_var 2 rfl) da_nil))) da_nil))))
    (fun v B hp' h => by
      obtain ⟨⟨r, h1, h2⟩, h3⟩ := h
      refine ⟨⟨r, h1⟩, ?_, h3⟩
      have h2' : (isD (eDeal r)).p v B := h2
      rw [eDeal_eq] at h2'
      exact tupA_of h2') (fun q => dgA2 rfl (fun A => dg_name 3 sc_searched.nd rfl (Or.inl rfl)) (fun A => dg_name 4 sc_searched.nd rfl (Or.inl rfl))) ?_
  rintro ⟨r, hE⟩
  cases hE with
  | @bar f o hbar =>
    refine dss_ifr (b := true) (dt_eq (dt_cmp op_eq (re_eqS (x := "bar") (y := "bar")) (de_var 3 rfl) de_str) (by decide)) (fun _ => ?_) (fun h => by cases h)
    refine dss_ret (A := isD (eSRes (.inr (eNode f o)))) (hp1 := []) (de_tup (ds := [.none, eNode f o]) (da_cons de_non (da_cons (de_op op_catA (re_catT (ds := [.str "bar"]) (es := [.str f, encO o]) (show 1 + 2 ≤ sizeLine from by decide)) (de_tup (ds := [.str "bar"]) (da_cons de_str da_nil)) (de_var 4 rfl)) da_nil))) fun v B h => ⟨rfl, _, .tree (.bar hbar), h⟩
  | @dealt gs h1 h2 =>
    refine dss_ifr (b := false) (dt_eq (dt_cmp op_eq (re_eqS (x := "dealt") (y := "bar")) (de_var 3 rfl) de_str) (by decide)) (fun h => by cases h) (fun _ => ?_)
    refine dss_ifr (b := !tk.any (·.isNone)) (dt_eq (dt_cmp op_notIn_seq (re_inL (neg := true) (d := .none) (ds := tk.map optN) rfl (optN_flat tk)) de_non (de_var 2 rfl)) (by rw [if_pos rfl, inV_non])) (fun hb => ?_) (fun hb => ?_)
    · obtain ⟨cs, rfl⟩ := noneN_zero (tk := tk) (by simpa using hb)
      have eW : takenW sheet (cs.map some) = chosenW sheet cs := chosenW_eq.symm
      rw [eW] at h1 h2
      have hC : OkC sheet cs := ⟨by have := okt.len; rw [List.length_map] at this; exact this, fun k ways i hk hi => okt.at_ k ways i hk (by rw [List.getElem?_map, hi]; rfl)⟩
      refine dss_ret (A := isD (eSRes (.inl (cs, gs)))) (hp1 := []) (de_tup (ds := [eFound (cs, gs), .none]) (da_cons (de_tup (ds := [.tuple (cs.map natD), eGiven gs]) (da_cons (de_eq (de_callTy call_tuple_of (rc_tupleL (ds := (cs.map some).map optN)) Y.tuple bt_tuple (da_cons (de_var 2 rfl) da_nil)) (by rw [List.map_map]; rfl)) (da_cons (de_var 4 rfl) da_nil))) (da_cons de_non da_nil))) fun v B h => ⟨rfl, _, .found hC h1 h2, h⟩
    · obtain ⟨k, hk1, hk2⟩ := first_none (tk := tk) (by simpa using hb)
      obtain ⟨n, rfl⟩ : ∃ n, m = n + 1 := ⟨m - 1, by have := noneN_pos hk1; omega⟩
      refine dss_ret (A := exA fun r => andA (SearchEnd rows sheet tk r) (isD (eSRes r))) (hp1 := []) (de_callP (c3 n rfl) hr (by omega) (rows, sheet, tk, k) ⟨okr, oks, okt, hm, hk1⟩ (da_cons (de_var 0 rfl) (da_cons (de_var 1 rfl) (da_cons (de_var 2 rfl) (da_cons (de_indexN hk1 hk2 (pe_bm PySem.F.plainAttrs_list PySem.F.slot_list_index PySem.F.type_list_index mt_index (de_var 2 rfl) (da_cons de_non da_nil))) da_nil))))) fun v B h => ⟨rfl, h⟩
theorem ok_by_cases (m : Nat) (Y : Bi mg) (c1 : C8.Cal P w K mg base (2 * m + 7) "searched" (spSearched K m) []) (F : FnD K d_by_cases f fd) : FnOk P w K mg base CX0 (2 * m + 8) f fd ["heap", "sheet", "taken", "k"] (spByCases K m) := by
  refine ok_ds F sc_by_cases _ _ _ _ (fun _ => rfl) fun y hy cdv A outer s H E hr => ?_
  obtain ⟨rows, sheet, tk, k⟩ := y
  obtain ⟨okr, oks, okt, hm, hk⟩ := hy
  have okr : OkR rows := okr
  have oks : OkS sheet := oks
  have okt : OkT sheet tk := okt
  have hm : noneN tk = m + 1 := hm
  have hk : tk[k]? = some none := hk
  have hkl : k < tk.length := (List.getElem?_eq_some_iff.mp hk).1
  have htl : tk.length ≤ 3 := by rw [okt.len]; exact oks.len
  have hw : sheet[k]? = some (sheet[k]'(by rw [← okt.len]; exact hkl)) := List.getElem?_eq_getElem _
  generalize (sheet[k]'(by rw [← okt.len]; exact hkl)) = ways at hw
  have hw3 := oks.ways3 ways (List.mem_of_getElem? hw)
  refine dss_set (i := 4) (hp1 := []) (de_tup (ds := [.str "row", natD k]) (da_cons de_str (da_cons (de_var 3 rfl) da_nil))) ?_ sc_by_cases.nd
  refine dss_for (di_range1 (n := ways.length) Y.range (da_cons (de_eq (de_callB call_len_seq (rc_lenT (ds := ways.map eWants)) Y.len bt_len (da_cons (de_ixT (d := eWays ways) (atI_nat' (by rw [List.getElem?_map, hw]; rfl)) (de_var 1 rfl) (de_var 3 rfl)) da_nil)) (by rw [List.length_map])) da_nil) (by omega)) [5] (fun j => [isI ((j : Nat) : Int)]) (fun j _ => dg_name 5 sc_by_cases.nd rfl (Or.inl rfl))
    (fun i s h => ∃ ts : List PyData, (ts.length = i ∧ ∀ j t, ts[j]? = some t → TreeOk rows sheet (tk.set k (some j)) t) ∧ s = [some (isHeap (HC K) rows), some (isD (eSheet sheet)), some (isD (eTk tk)), some (isI (k : Int)), some (isD (.tuple (.str "row" :: natD k :: ts))), none, none, none] ∧ h = [])
    ⟨[], ⟨rfl, fun j t h => by simp at h⟩, rfl, rfl⟩ ?_ ?_
  · rintro i i' s h hi ⟨ts, ⟨hts, hT⟩, rfl, rfl⟩
    obtain ⟨hil, hie⟩ := List.getElem?_eq_some_iff.mp hi
    rw [List.getElem_range] at hie
    subst hie
    rw [List.length_range] at hil
    have hsz0 := congrArg List.length (tk_set (i := i) hkl)
    rw [List.length_append, List.length_map, List.length_set] at hsz0
    have hsz1 : (cutD (tk.map optN) none (some (k : Int)) ++ [natD i]).length + (cutD (tk.map optN) (some ((k + 1 : Nat) : Int)) none).length ≤ sizeLine := Nat.le_trans (m := 3) (by omega) (by decide)
    have hsz2 : (cutD (tk.map optN) none (some (k : Int))).length + [natD i].length ≤ sizeLine := Nat.le_trans (m := 3) (by rw [List.length_append] at hsz0; omega) (by decide)
    refine dss_unp (α := { r // SearchEnd rows sheet (tk.set k (some i)) r }) (As := fun r => [isD (rF r.1), isD (rT r.1)]) (Cs := fun _ => []) (js := [6, 7]) (dx_of (A := (exA fun r => andA (SearchEnd rows sheet (tk.set k (some i)) r) (isD (eSRes r)))) (hp1 := []) (de_callP c1 hr (Nat.le_refl _) (rows, sheet, tk.set k (some i)) ⟨okr, oks, okt.set hw hil, by have := noneN_set (i := i) hk; show noneN (tk.set k (some i)) = m; omega⟩ (da_cons (de_var 0 rfl) (da_cons (de_var 1 rfl) (da_cons (de_eq (de_op op_cat (re_catL (ds := cutD (tk.map optN) none (some (k : Int)) ++ [natD i]) (es := cutD (tk.map optN) (some ((k + 1 : Nat) : Int)) none) hsz1)
        (de_op op_cat (re_catL (ds := cutD (tk.map optN) none (some (k : Int))) (es := [natD i]) hsz2) (de_sliceL (de_var 2 rfl) do_none (do_some (de_var 3 rfl))) (de_lst (ds := [natD i]) (da_cons (de_var 5 rfl) da_nil))) (de_sliceL (de_var 2 rfl) (do_some (de_op op_add re_I0 (de_var 3 rfl) de_int)) do_none)) (by rw [tk_set hkl])) da_nil)))))
      (fun v B hp' h => by obtain ⟨⟨r, h1, h2⟩, h3⟩ := h; exact ⟨⟨r, h1⟩, tupA_of h2, h3⟩) (fun q => dgA2 rfl (fun A => dg_name 6 sc_by_cases.nd rfl (Or.inl rfl)) (fun A => dg_name 7 sc_by_cases.nd rfl (Or.inl rfl))) ?_
    rintro ⟨r, hE⟩
    cases r with
    | inl q =>
      refine dss_ifr (b := true) (dt_cmp op_notN (re_notN (d := eFound q)) (de_var 6 rfl) de_non) (fun _ => ?_) (fun h => by cases h)
      exact dss_ret (A := isD (eSRes (.inl q))) (hp1 := []) (de_tup (ds := [eFound q, .none]) (da_cons (de_var 6 rfl) (da_cons de_non da_nil))) fun v B h => ⟨rfl, _, hE.any, h⟩
    | inr t =>
      refine dss_ifr (b := false) (dt_cmp op_notN (re_notN (d := .none)) (de_var 6 rfl) de_non) (fun h => by cases h) (fun _ => ?_)
      refine dss_set (i := 4) (hp1 := []) (de_op op_catA (re_catT (ds := .str "row" :: natD k :: ts) (es := [t]) (by
        have h1 : (PyData.str "row" :: natD k :: ts).length + [t].length ≤ 10 := by simp only [List.length_cons, List.length_nil]; omega
        exact Nat.le_trans h1 (by decide))) (de_var 4 rfl) (de_tup (ds := [t]) (da_cons (de_var 7 rfl) da_nil))) ?_ sc_by_cases.nd
      refine dss_nil (wk_mask [true, true, true, true, true, false, false, false] _) ⟨ts ++ [t], ⟨by rw [List.length_append, hts]; rfl, fun j t' hj => ?_⟩, rfl, rfl⟩
      by_cases hjl : j < ts.length
      · rw [List.getElem?_append_left hjl] at hj
        exact hT j t' hj
      · have hji : j = i := by
          have := (List.getElem?_eq_some_iff.mp hj).1
          rw [List.length_append] at this
          simp only [List.length_cons, List.length_nil] at this
          omega
        subst hji
        rw [List.getElem?_append_right (by omega), hts, Nat.sub_self] at hj
        cases hj
        cases hE with
        | tree h => exact h
  · rintro s h ⟨ts, ⟨hts, hT⟩, rfl, rfl⟩
    rw [List.length_range] at hts
    exact dss_ret (A := isD (eSRes (.inr (.tuple (.str "row" :: natD k :: ts))))) (hp1 := []) (de_tup (ds := [.none, .tuple (.str "row" :: natD k :: ts)]) (da_cons de_non (da_cons (de_var 4 rfl) da_nil))) fun v B h => ⟨rfl, _, .tree (.row hk hw hts hT), h⟩
end
end PK
end
section
set_option Elab.async false
set_option linter.all false
set_option maxRecDepth 100000
set_option maxHeartbeats 8000000
namespace PK
open PySem PySem.Spec PyProof.Rows L2
open PM (Want manyP manyF ls letsL)
section
variable {X : Cx} {sl : SL} {hp : List Cell} {own0 : List Addr} {rest : List Stmt} {Nx : NxP} {Rt : RtP} {e e2 : Expr} {pos pos' p : Pos} {x : Str} {d d2 : PyData}
/-- x = [e, e2] -/
theorem dss_newL2 {i : Nat} (he : DE X e sl hp (isD d) hp) (he2 : DE X e2 sl hp (isD d2) hp) (hr : ∀ a, a ∉ own0 → DSs X own0 rest (sl.set i (some (isV (.ref a)))) (hp ++ [⟨a, oL [d, d2]⟩]) Nx Rt) (hN : X.N.Nodup) (hi : X.N[i]? = some x := by rfl) (hx : Loc X.env.scope x := by first | exact Or.inl rfl | exact Or.inr rfl)
    (hse : starEach [e, e2] X.env = (false, eval e X.env) :: starEach [e2] X.env := by rfl) (hse2 : starEach [e2] X.env = (false, eval e2 X.env) :: starEach [] X.env := by rfl) (hs : swapsWith (.List [e, e2] p) (some (.Name x pos')) pos.line X.env = pure false := by rfl) (hf : X.fn x = true ∨ X.env.scope.names.lookup x = some .local := by first | exact .inl rfl | exact .inr rfl | assumption) :
    DSs X own0 (.Assign [.Name x pos'] (.List [e, e2] p) pos :: rest) sl hp Nx Rt := by
  refine pss_imp (pss_cons (ps_set hN hi hx (pe_lst (da_cons he (da_cons he2 da_nil hse2) hse)) hs hf) (pss_ex fun a => pss_hyp (hr a))) fun D σ H ⟨Z, B, z, S, T, k, r⟩ => ⟨Z, B, S, T, fun vs B1 H1 m1 S1 q1 => ?_⟩
  obtain ⟨v, v2, rfl, hv, hv2⟩ := all2_two q1
  refine ⟨by show 2 ≤ sizeLine; decide, fun p hp => ?_⟩
  obtain ⟨S2, hn⟩ := S1.allocOwn hp (o := .lst [v, v2]) (mo := oL [d, d2]) ⟨[v, v2], rfl, .cons hv (.cons hv2 .nil)⟩
  exact ⟨p, by rw [← z]; exact hn, Z, B1, z, S2, (T.mono m1).set (A := isV (.ref p)) rfl i, fun σ' B' H' s h m => k σ' B' H' s h (m1.trans m), fun v B' H' h m => r v B' H' h (m1.trans m)⟩
end
theorem begunOk {sheet : Sh} (ok : OkS sheet) : OkT sheet (begunL sheet) where
  len := by unfold begunL; rw [List.length_map]
  at_ k ways i hk hi := by
    unfold begunL at hi
    rw [List.getElem?_map, hk] at hi
    have h1 := ok.ways1 ways (List.mem_of_getElem? hk)
    by_cases q : ways.length = 1
    · have hi : some (if ways.length = 1 then some 0 else none) = some (some i) := hi
      rw [if_pos q] at hi
      cases hi; omega
    · have hi : some (if ways.length = 1 then some 0 else none) = some (some i) := hi
      rw [if_neg q] at hi
      cases hi
theorem noneN_le {tk : List (Option Nat)} : noneN tk ≤ tk.length := List.length_filter_le ..
/-! ### shape of trees -/
theorem canLay_of : ∀ {ts : List PyData}, (∀ t ∈ ts, PyData.canLay0 t = true) → PyData.canLayAll0 ts = true
  | [], _ => rfl
  | t :: ts, h => by
    have h1 := canLay_of (ts := ts) fun s hs => h s (List.mem_cons_of_mem _ hs)
    have h2 := h t (List.mem_cons_self ..)
    simp [PyData.canLayAll0, h1, h2]
theorem depth_of {n : Nat} : ∀ {ts : List PyData}, (∀ t ∈ ts, PyData.depth t ≤ n) → PyData.depthAll ts ≤ n
  | [], _ => by simp [PyData.depthAll]
  | t :: ts, h => by
    have h1 := depth_of (ts := ts) fun s hs => h s (List.mem_cons_of_mem _ hs)
    have h2 := h t (List.mem_cons_self ..)
    simp only [PyData.depthAll]
    omega
theorem str_lay {s : Str} (h : PySem.PyData.strOk s = true) : PyData.canLay0 (.str s) = true := by simp [PyData.canLay0, h]
theorem encO_sh {o : Option (List Str)} (h : OkO o) : PyData.canLay0 (encO o) = true ∧ PyData.depth (encO o) ≤ 1 := by
  cases o with
  | none => exact ⟨rfl, by simp [encO, PyData.depth]⟩
  | some l => exact ⟨canLay_strs fun s hs => shades_ok s (h.sh l rfl s hs), by simp [encO, PyData.depth, depth_strs]⟩
theorem node_sh {f : Str} {o : Option (List Str)} (hf : f ∈ formsL) (ho : OkO o) : PyData.canLay0 (eNode f o) = true ∧ PyData.depth (eNode f o) ≤ 3 := by
  obtain ⟨h1, h2⟩ := encO_sh ho
  have h3 := str_lay (forms_ok f hf)
  have h4 : PyData.canLay0 (.str "bar") = true := str_lay (by decide +kernel)
  refine ⟨?_, ?_⟩
  · show PyData.canLayAll0 [.str "bar", .str f, encO o] = true
    exact canLay_of fun t ht => by
      rcases List.mem_cons.mp ht with rfl | ht
      · exact h4
      · rcases List.mem_cons.mp ht with rfl | ht
        · exact h3
        · rw [List.mem_singleton.mp ht]; exact h1
  · show PyData.depthAll [.str "bar", .str f, encO o] + 1 ≤ 3
    have : PyData.depthAll [.str "bar", .str f, encO o] ≤ 1 := depth_of fun t ht => by
      rcases List.mem_cons.mp ht with rfl | ht
      · simp [PyData.depth]
      · rcases List.mem_cons.mp ht with rfl | ht
        · simp [PyData.depth]
        · rw [List.mem_singleton.mp ht]; exact h2
    omega
theorem tree_sh {rows : Rws} {sheet : Sh} {tk : List (Option Nat)} {t : PyData} (h : TreeOk rows sheet tk t) : PyData.canLay0 t = true ∧ PyData.depth t ≤ noneN tk + 3 := by
  induction h with
  | bar hb =>
    obtain ⟨h1, h2⟩ := node_sh hb.fm hb.oo
    exact ⟨h1, by omega⟩
  | @row tk k ways ts hk hw hl _ ih =>
    have hr : PyData.canLay0 (.str "row") = true := str_lay (by decide +kernel)
    have hn := noneN_set (i := 0) hk
    refine ⟨?_, ?_⟩
    · show PyData.canLayAll0 (.str "row" :: natD k :: ts) = true
      exact canLay_of fun t ht => by
        rcases List.mem_cons.mp ht with rfl | ht
        · exact hr
        · rcases List.mem_cons.mp ht with rfl | ht
          · simp [PyData.canLay0]
          · obtain ⟨i, hi⟩ := List.getElem?_of_mem ht
            exact (ih i t hi).1
    · show PyData.depthAll (.str "row" :: natD k :: ts) + 1 ≤ _
      have : PyData.depthAll (.str "row" :: natD k :: ts) ≤ noneN tk + 2 := depth_of fun t ht => by
        rcases List.mem_cons.mp ht with rfl | ht
        · simp [PyData.depth]
        · rcases List.mem_cons.mp ht with rfl | ht
          · simp [PyData.depth]
          · obtain ⟨i, hi⟩ := List.getElem?_of_mem ht
            have h1 := (ih i t hi).2
            have h2 := noneN_set (i := i) hk
            omega
      omega
theorem tree_shaped {rows : Rws} {sheet : Sh} {tk : List (Option Nat)} {t : PyData} (h : TreeOk rows sheet tk t) (hl : tk.length ≤ 3) : SeqAt.shaped t = true := by
  obtain ⟨h1, h2⟩ := tree_sh h
  have h3 := noneN_le (tk := tk)
  unfold SeqAt.shaped
  rw [Bool.and_eq_true]
  exact ⟨h1, decide_eq_true (by omega)⟩
def nodeOf : (Str × Option (List Str)) ⊕ (Nat × List PyData) → PyData
  | .inl q => eNode q.1 q.2
  | .inr q => .tuple (.str "row" :: natD q.1 :: q.2)
abbrev spForm : Sp := spP (γ := (Str × Option (List Str)) ⊕ (Nat × List PyData)) (fun y => [isD (nodeOf y)]) (fun y => SeqAt.shaped (nodeOf y) = true) (fun y => isB true)
def eBuild : SRes → PyData
  | .inl q => .tuple [.str "dealt", eFound q]
  | .inr t => .tuple [.str "cases", t]
structure LkIn where
  rows : Rws
  sheet : Sh
  tk : List (Option Nat)
  thing : PyData
  a : Addr
  n : Int
  c : Int
abbrev seenC (a : Addr) (n c : Int) : List Cell := [⟨a, oL [.int n, .int c]⟩]
abbrev spLookAt (K : PySem.W.Frag) (m : Nat) : Sp := spOf (γ := LkIn) (fun y => [isHeap (HC K) y.rows, isD (eSheet y.sheet), isD (eTk y.tk), isD y.thing, isV (.ref y.a)]) (fun y => seenC y.a y.n y.c) (fun y => OkR y.rows ∧ OkS y.sheet ∧ OkT y.sheet y.tk ∧ TreeOk y.rows y.sheet y.tk y.thing ∧ noneN y.tk = m) (fun y v B hp' => ∃ n c, y.c + 1 ≤ c ∧ hp' = seenC y.a n c)
abbrev spLookBelow (K : PySem.W.Frag) (m : Nat) : Sp := spOf (γ := LkIn × Nat × List PyData) (fun y => [isHeap (HC K) y.1.rows, isD (eSheet y.1.sheet), isD (eTk y.1.tk), isD (nodeOf (.inr y.2)), isV (.ref y.1.a)]) (fun y => seenC y.1.a y.1.n y.1.c) (fun y => OkR y.1.rows ∧ OkS y.1.sheet ∧ OkT y.1.sheet y.1.tk ∧ y.1.tk[y.2.1]? = some none ∧ (∃ ways, y.1.sheet[y.2.1]? = some ways ∧ y.2.2.length = ways.length) ∧ (∀ i t, y.2.2[i]? = some t → TreeOk y.1.rows y.1.sheet (y.1.tk.set y.2.1 (some i)) t) ∧ noneN y.1.tk = m + 1) (fun y v B hp' => ∃ n c, y.1.c + 1 ≤ c ∧ hp' = seenC y.1.a n c)
section
variable {P : Program} {w : World} {K : PySem.W.Frag} {mg : Str → Option Value} {base : Heap} {f : Addr} {fd : FuncData}
theorem ok_build (Y : Bi mg) (c1 : ∀ m, m ≤ 3 → C8.Cal P w K mg base (2 * m + 7) "searched" (spSearched K m) []) (c2 : C8.Cal P w K mg base 1 "begun_ways" spBegun []) (F : FnD K d_build f fd) : FnOk P w K mg base CX0 14 f fd ["heap", "sheet"] (spP (γ := Rws × Sh) (fun y => [isHeap (HC K) y.1, isD (eSheet y.2)]) (fun y => OkR y.1 ∧ OkS y.2) (fun y => exA fun r => andA (SearchEnd y.1 y.2 (begunL y.2) r) (isD (eBuild r)))) := by
  refine ok_ds F sc_build _ _ _ _ (fun _ => rfl) fun y hy cdv A outer s H E hr => ?_
  obtain ⟨rows, sheet⟩ := y
  obtain ⟨okr, oks⟩ := hy
  have okr : OkR rows := okr
  have oks : OkS sheet := oks
  have hm : noneN (begunL sheet) ≤ 3 := by
    have h1 := noneN_le (tk := begunL sheet)
    have h2 := (begunOk oks).len
    have h3 := oks.len
    omega
  refine dss_unp (α := { r // SearchEnd rows sheet (begunL sheet) r }) (As := fun r => [isD (rF r.1), isD (rT r.1)]) (Cs := fun _ => []) (js := [2, 3])
    (dx_of (A := exA fun r => andA (SearchEnd rows sheet (begunL sheet) r) (isD (eSRes r))) (hp1 := []) (de_callP (c1 _ hm) hr (by omega) (rows, sheet, begunL sheet) ⟨okr, oks, begunOk oks, rfl⟩ (da_cons (de_var 0 rfl) (da_cons (de_var 1 rfl) (da_cons (de_callP c2 hr (by omega) sheet (Nat.le_trans oks.len (by decide)) (da_cons (de_var 1 rfl) da_nil)) da_nil)))))
    (fun v B hp' h => by obtain ⟨⟨r, h1, h2⟩, h3⟩ := h; exact ⟨⟨r, h1⟩, tupA_of h2, h3⟩) (fun q => dgA2 rfl (fun A => dg_name 2 sc_build.nd rfl (Or.inl rfl)) (fun A => dg_name 3 sc_build.nd rfl (Or.inl rfl))) ?_
  rintro ⟨r, hE⟩
  refine dss_ret (A := isD (eBuild r)) (hp1 := []) (de_if (t := !notNone (rF r)) (hp1 := []) (dt_cmp op_isN re_isN (de_var 2 rfl) de_non) (fun hb => ?_) (fun hb => ?_)) fun v B h => ⟨rfl, _, hE, h⟩
  · cases r with
    | inl q => cases hb
    | inr t => exact de_tup (ds := [.str "cases", t]) (da_cons de_str (da_cons (de_var 3 rfl) da_nil))
  · cases r with
    | inl q => exact de_tup (ds := [.str "dealt", eFound q]) (da_cons de_str (da_cons (de_var 2 rfl) da_nil))
    | inr t => cases hb
theorem ok_has_form (Y : Bi mg) (F : FnD K d_has_form f fd) : FnOk P w K mg base CX0 1 f fd ["thing"] spForm := by
  refine ok_ds F sc_has_form _ _ _ _ (fun _ => rfl) fun y hy cdv A outer s H E hr => ?_
  have hs : SeqAt.shaped (nodeOf y) = true := hy
  have hnt : tyD (nodeOf y) = "tuple" := by cases y <;> rfl
  refine dss_ifr (b := false || false) (dt_w (dw_or (dt_not (t := true) (dt_val ?_)) fun _ => dw_or1 (dt_eq (dt_cmp (op_eqD (hu64 hr)) (re_eqD (d := nodeOf y) (e := .tuple []) hs rfl) (de_var 0 rfl) (de_tup (ds := []) da_nil)) ?_))) (fun h => by cases h) fun _ => ?_
  · exact de_callB call_isi (rc_isi (d := nodeOf y) (by rw [hnt]; exact kit_tt)) Y.isinstance bt_isinstance (da_cons (de_var 0 rfl) (da_cons (de_bi Y.tuple bt_tuple) da_nil))
  · cases y with
    | inl q => exact eqv_nil
    | inr q => exact eqv_nil
  · cases y with
    | inl q =>
      refine dss_ret (A := isB ((true && true) || true)) (hp1 := []) (de_or0 (de_and0 (de_eq (de_cmp op_eq (re_eqS (x := "bar") (y := "bar")) (de_ixT (d := .str "bar") ix0 (de_var 0 rfl) de_int) de_str) (congrArg PyData.bool (by decide))) fun _ => de_one (de_eq (de_cmp op_eq (re_eqI (i := ((3 : Nat) : Int)) (j := 3)) (de_callB call_len_seq (rc_lenT (ds := [.str "bar", .str q.1, encO q.2])) Y.len bt_len (da_cons (de_var 0 rfl) da_nil)) de_int) (congrArg PyData.bool (by decide)))) fun h => by cases h) fun v B h => ⟨rfl, h⟩
    | inr q =>
      have hl : (decide ((((.str "row" :: natD q.1 :: q.2 : List PyData).length : Nat) : Int) > 1)) = true := decide_eq_true (by rw [List.length_cons, List.length_cons]; omega)
      refine dss_ret (A := isB ((false && true) || (true && true))) (hp1 := []) (de_or0 (de_and0 (de_eq (de_cmp op_eq (re_eqS (x := "row") (y := "bar")) (de_ixT (d := .str "row") ix0 (de_var 0 rfl) de_int) de_str) (congrArg PyData.bool (by decide))) fun h => by cases h) fun _ => de_one (de_and0 (de_eq (de_cmp op_eq (re_eqS (x := "row") (y := "row")) (de_ixT (d := .str "row") ix0 (de_var 0 rfl) de_int) de_str) (congrArg PyData.bool (by decide))) fun _ => de_one (de_eq (de_cmp op_gt re_B0 (de_callB call_len_seq (rc_lenT (ds := .str "row" :: natD q.1 :: q.2)) Y.len bt_len (da_cons (de_var 0 rfl) da_nil)) de_int) (congrArg PyData.bool hl)))) fun v B h => ⟨rfl, h⟩
end
end PK
end
section
set_option Elab.async false
set_option linter.all false
set_option maxRecDepth 100000
set_option maxHeartbeats 8000000
namespace PK
open PySem PySem.Spec PyProof.Rows L2
open PM (Want manyP manyF ls letsL)
section
variable {X : Cx} {sl : SL} {hp hp1 : List Cell} {own0 : List Addr} {rest : List Stmt} {Nx : NxP} {Rt : RtP} {a b : Expr} {pos px py pt pt2 : Pos} {x y : Str} {A1 A2 : MA}
/-- x, y = a, b -/
theorem dss_par {i j : Nat} {kt k2 : Nat} (ha : DA X [a, b] sl hp [A1, A2] hp1) (hr : DSs X own0 rest ((sl.set i (some A1)).set j (some A2)) hp1 Nx Rt) (hN : X.N.Nodup) (hij : i ≠ j) (hi : X.N[i]? = some x := by rfl) (hj : X.N[j]? = some y := by rfl) (hc : X.calm = true := by rfl)
    (hx : X.env.scope.names.lookup x = some .local := by rfl) (hy : X.env.scope.names.lookup y = some .local := by rfl)
    (hw : swappedStores [.Tuple [.Name x px, .Name y py] kt pt] (.Tuple [a, b] k2 pt2) X.env = pure (some [x, y]) := by rfl)
    (hs : swapsWithSole [.Tuple [.Name x px, .Name y py] kt pt] (.Tuple [a, b] k2 pt2) pos.line X.env = pure false := by rfl) :
    DSs X own0 (.Assign [.Tuple [.Name x px, .Name y py] kt pt] (.Tuple [a, b] k2 pt2) pos :: rest) sl hp Nx Rt :=
  pss_imp (pss_cons (ps_par hc hN hi hj hij hx hy ha hw hs) hr) fun D σ H ⟨Z, B, z, S, T, k, r⟩ => ⟨Z, B, S, T, fun vs B1 H1 m1 S1 q1 => by
    obtain ⟨v, w, rfl, hv, hw'⟩ := all2_two q1
    exact ⟨v, w, rfl, Z, B1, z, S1, ((T.mono m1).set hv i).set hw' j, fun σ' B' H' s h m => k σ' B' H' s h (m1.trans m), fun v B' H' h m => r v B' H' h (m1.trans m)⟩⟩
end
section
variable {P : Program} {w : World} {K : PySem.W.Frag} {mg : Str → Option Value} {base : Heap} {f : Addr} {fd : FuncData}
theorem ix0' {n c : Int} : atI [PyData.int n, .int c] 0 = some (.int n) := ix0
theorem ix1' {n c : Int} : atI [PyData.int n, .int c] 1 = some (.int c) := ix1
theorem ok_look_at (m : Nat) (Y : Bi mg) (c1 : C8.Cal P w K mg base 1 "has_form" spForm []) (c2 : C8.Cal P w K mg base 1 "need_node" spNeed []) (c3 : C8.Cal P w K mg base 5 "is_barred" (spBarred K) []) (c4 : C8.Cal P w K mg base 1 "taken_wants" spTaken []) (c5 : ∀ n, m = n + 1 → C8.Cal P w K mg base (2 * n + 7) "look_below" (spLookBelow K n) []) (F : FnD K d_look_at f fd) : FnOk P w K mg base CX0 (2 * m + 6) f fd ["heap", "sheet", "taken", "thing", "seen"] (spLookAt K m) := by
  refine ok_ds F sc_look_at _ _ _ _ (fun _ => rfl) fun y hy cdv A outer s H E hr => ?_
  obtain ⟨rows, sheet, tk, thing, a, n, c⟩ := y
  obtain ⟨okr, oks, okt, tree, hm⟩ := hy
  have okr : OkR rows := okr
  have oks : OkS sheet := oks
  have okt : OkT sheet tk := okt
  have tree : TreeOk rows sheet tk thing := tree
  have hm : noneN tk = m := hm
  have htl : tk.length ≤ 3 := by rw [okt.len]; exact oks.len
  have hsh := tree_shaped tree htl
  refine dss_set (i := 5) (hp1 := seenC a n c) (de_ixOwn (d := .int n) 0 rfl ix0' (de_var 4 rfl) de_int) ?_ sc_look_at.nd
  refine dss_setIx (d := .int (n + 1)) (jj := 0) (hp1 := seenC a n c) 0 rfl (by rfl) (de_op op_add re_I0 (de_var 5 rfl) de_int) (de_var 4 rfl) de_int ?_
  show DSs _ _ _ _ (seenC a (n + 1) c) _ _
  cases tree with
  | @bar _ fm o hb =>
    refine dss_expr (hp1 := seenC a (n + 1) c) (de_callP c2 hr (by omega) ("shape", n) trivial (da_cons (de_callP c1 hr (by omega) (.inl (fm, o)) hsh (da_cons (de_var 3 rfl) da_nil)) (da_cons de_str (da_cons (de_var 5 rfl) da_nil)))) ?_
    refine dss_if (M := fun s h => s = [some (isHeap (HC K) rows), some (isD (eSheet sheet)), some (isD (eTk tk)), some (isD (eNode fm o)), some (isV (.ref a)), some (isI n)] ∧ h = seenC a (n + 1) (c + 1)) (b := false) (dt_eq (dt_cmp op_eq (re_eqS (x := "bar") (y := "row")) (de_ixT (d := .str "bar") ix0 (de_var 3 rfl) de_int) de_str) (by decide)) (fun h => by cases h) (fun _ => ?_) fun s h ⟨e1, e2⟩ => ?_
    · refine dss_expr (hp1 := seenC a (n + 1) c) (de_callP c2 hr (by omega) ("bar", n) trivial (da_cons (de_callP c3 hr (by omega) (rows, takenW sheet tk, fm, o) ⟨okr.len', takenW_ok oks okt, hb⟩ (da_cons (de_var 0 rfl) (da_cons (de_callP c4 hr (by omega) (sheet, tk) ⟨oks, okt⟩ (da_cons (de_var 1 rfl) (da_cons (de_var 2 rfl) da_nil))) (da_cons (de_var 3 rfl) da_nil)))) (da_cons de_str (da_cons (de_var 5 rfl) da_nil)))) ?_
      refine dss_setIx (d := .int (c + 1)) (jj := 1) (hp1 := seenC a (n + 1) c) 0 rfl (by rfl) (de_op op_add re_I0 (de_ixOwn (d := .int c) 0 rfl ix1' (de_var 4 rfl) de_int) de_int) (de_var 4 rfl) de_int ?_
      exact dss_nil (Wk.refl _) ⟨rfl, rfl⟩
    · subst e1 e2
      exact dss_nil (Wk.refl _) fun B => ⟨n + 1, c + 1, Int.le_refl _, rfl⟩
  | @row _ k ways ts hk hw hl hT =>
    obtain ⟨m', rfl⟩ : ∃ m', m = m' + 1 := ⟨m - 1, by have := noneN_pos hk; omega⟩
    refine dss_expr (hp1 := seenC a (n + 1) c) (de_callP c2 hr (by omega) ("shape", n) trivial (da_cons (de_callP c1 hr (by omega) (.inr (k, ts)) hsh (da_cons (de_var 3 rfl) da_nil)) (da_cons de_str (da_cons (de_var 5 rfl) da_nil)))) ?_
    refine dss_if (M := fun s h => ∃ n' c', c + 1 ≤ c' ∧ h = seenC a n' c') (b := true) (dt_eq (dt_cmp op_eq (re_eqS (x := "row") (y := "row")) (de_ixT (d := .str "row") ix0 (de_var 3 rfl) de_int) de_str) (by decide)) (fun _ => ?_) (fun h => by cases h) fun s h ⟨n', c', e1, e2⟩ => ?_
    · refine dss_exprX (α := { q : Int × Int // c + 1 ≤ q.2 }) (Cs := fun q => seenC a q.1.1 q.1.2) (dx_call0 (c5 m' rfl) hr (by omega) (⟨rows, sheet, tk, nodeOf (.inr (k, ts)), a, n + 1, c⟩, k, ts) ⟨okr, oks, okt, hk, ⟨ways, hw, hl⟩, hT, hm⟩ (da_cons (de_var 0 rfl) (da_cons (de_var 1 rfl) (da_cons (de_var 2 rfl) (da_cons (de_var 3 rfl) (da_cons (de_var 4 rfl) da_nil))))))
        (fun v B hp' h => by obtain ⟨n', c', h1, h2⟩ := h; exact ⟨⟨(n', c'), h1⟩, h2⟩) fun q => dss_nil (Wk.refl _) ⟨_, _, q.2, rfl⟩
    · subst e2
      exact dss_nil (Wk.refl _) fun B => ⟨n', c', e1, rfl⟩
theorem ok_look_below (m : Nat) (Y : Bi mg) (c1 : C8.Cal P w K mg base 2 "is_free" spFree []) (c2 : C8.Cal P w K mg base 1 "need_node" spNeed []) (c3 : C8.Cal P w K mg base (2 * m + 6) "look_at" (spLookAt K m) []) (F : FnD K d_look_below f fd) : FnOk P w K mg base CX0 (2 * m + 7) f fd ["heap", "sheet", "taken", "thing", "seen"] (spLookBelow K m) := by
  refine ok_ds F sc_look_below _ _ _ _ (fun _ => rfl) fun y hy cdv A outer s H E hr => ?_
  obtain ⟨⟨rows, sheet, tk, thing, a, n, c⟩, k, ts⟩ := y
  obtain ⟨okr, oks, okt, hk, ⟨ways, hw, hl⟩, hT, hm⟩ := hy
  have okr : OkR rows := okr
  have oks : OkS sheet := oks
  have okt : OkT sheet tk := okt
  have hk : tk[k]? = some none := hk
  have hw : sheet[k]? = some ways := hw
  have hl : ts.length = ways.length := hl
  have hT : ∀ i t, ts[i]? = some t → TreeOk rows sheet (tk.set k (some i)) t := hT
  have hm : noneN tk = m + 1 := hm
  have htl : tk.length ≤ 3 := by rw [okt.len]; exact oks.len
  have hkl : k < tk.length := (List.getElem?_eq_some_iff.mp hk).1
  have hw3 := oks.ways3 ways (List.mem_of_getElem? hw)
  have hw1 := oks.ways1 ways (List.mem_of_getElem? hw)
  refine dss_par (i := 5) (j := 6) (A1 := isI (n - 1)) (A2 := isI (k : Int)) (hp1 := seenC a n c) (da_cons (de_op op_sub re_I0 (de_ixOwn (d := .int n) 0 rfl ix0' (de_var 4 rfl) de_int) de_int) (da_cons (de_ixT (ds := .str "row" :: natD k :: ts) (d := natD k) ix1 (de_var 3 rfl) de_int) da_nil)) ?_ sc_look_below.nd (by decide)
  refine dss_expr (hp1 := seenC a n c) (de_callP c2 hr (by omega) ("row", n - 1) trivial (da_cons (de_callP c1 hr (by omega) (tk, k) hk (da_cons (de_var 2 rfl) (da_cons (de_var 6 rfl) da_nil))) (da_cons de_str (da_cons (de_var 5 rfl) da_nil)))) ?_
  refine dss_expr (hp1 := seenC a n c) (de_callP c2 hr (by omega) ("cases", n - 1) trivial (da_cons (de_eq (de_cmp op_eq re_eqI (de_op op_sub re_I0 (de_callB call_len_seq (rc_lenT (ds := .str "row" :: natD k :: ts)) Y.len bt_len (da_cons (de_var 3 rfl) da_nil)) de_int) (de_callB call_len_seq (rc_lenT (ds := ways.map eWants)) Y.len bt_len (da_cons (de_ixT (d := eWays ways) (atI_nat' (by rw [List.getElem?_map, hw]; rfl)) (de_var 1 rfl) (de_var 6 rfl)) da_nil))) ?_) (da_cons de_str (da_cons (de_var 5 rfl) da_nil)))) ?_
  · refine congrArg PyData.bool (decide_eq_true ?_)
    rw [List.length_map, List.length_cons, List.length_cons]; omega
  refine dss_for (di_enumT (xs := ts) (hp1 := seenC a n c) Y.enumerate (de_eq (de_sliceT (ds := .str "row" :: natD k :: ts) (de_var 3 rfl) (do_some de_int) do_none) ?_)) [7, 8] (fun q => [isI ((q.2 : Nat) : Int), isD q.1]) (fun q _ => dg_tup2 rfl (fun A => dg_name 7 sc_look_below.nd rfl (Or.inl rfl)) (fun A => dg_name 8 sc_look_below.nd rfl (Or.inl rfl)))
    (fun i s h => ∃ n' c', c + i ≤ c' ∧ s = [some (isHeap (HC K) rows), some (isD (eSheet sheet)), some (isD (eTk tk)), some (isD (nodeOf (.inr (k, ts)))), some (isV (.ref a)), some (isI (n - 1)), some (isI (k : Int)), none, none] ∧ h = seenC a n' c')
    ⟨n, c, by simp, rfl, rfl⟩ ?_ ?_
  · have e1 : HT.sIx (PyData.str "row" :: natD k :: ts).length 0 (some 2) = min 2 (PyData.str "row" :: natD k :: ts).length := HT.sIx_nat _ 0 2
    have e2 : min 2 (PyData.str "row" :: natD k :: ts).length = 2 := by rw [List.length_cons, List.length_cons]; omega
    unfold cutD
    rw [e1, e2, HT.sIx_none]
    refine congrArg PyData.tuple ?_
    exact List.take_of_length_le (by simp)
  · rintro i ⟨t, i'⟩ s h hi ⟨n', c', hc, rfl, rfl⟩
    obtain ⟨rfl, hti⟩ := enum_at hi
    have hti : ts[i']? = some t := hti
    have hil : i' < ways.length := by have := (List.getElem?_eq_some_iff.mp hti).1; omega
    have hsz0 := congrArg List.length (tk_set (i := i') hkl)
    rw [List.length_append, List.length_map, List.length_set] at hsz0
    have hsz1 : (cutD (tk.map optN) none (some (k : Int)) ++ [natD i']).length + (cutD (tk.map optN) (some ((k + 1 : Nat) : Int)) none).length ≤ sizeLine := Nat.le_trans (m := 3) (by omega) (by decide)
    have hsz2 : (cutD (tk.map optN) none (some (k : Int))).length + [natD i'].length ≤ sizeLine := Nat.le_trans (m := 3) (by rw [List.length_append] at hsz0; omega) (by decide)
    refine dss_exprX (α := { q : Int × Int // c' + 1 ≤ q.2 }) (Cs := fun q => seenC a q.1.1 q.1.2) (dx_call0 c3 hr (Nat.le_refl _) (LkIn.mk rows sheet (tk.set k (some i')) t a n' c') ⟨okr, oks, okt.set hw hil, hT i' t hti, by have := noneN_set (i := i') hk; show noneN (tk.set k (some i')) = m; omega⟩
      (da_cons (de_var 0 rfl) (da_cons (de_var 1 rfl) (da_cons (de_eq (de_op op_cat (re_catL (ds := cutD (tk.map optN) none (some (k : Int)) ++ [natD i']) (es := cutD (tk.map optN) (some ((k + 1 : Nat) : Int)) none) hsz1)
        (de_op op_cat (re_catL (ds := cutD (tk.map optN) none (some (k : Int))) (es := [natD i']) hsz2) (de_sliceL (de_var 2 rfl) do_none (do_some (de_var 6 rfl))) (de_lst (ds := [natD i']) (da_cons (de_var 7 rfl) da_nil))) (de_sliceL (de_var 2 rfl) (do_some (de_op op_add re_I0 (de_var 6 rfl) de_int)) do_none)) (by rw [tk_set hkl])) (da_cons (de_var 8 rfl) (da_cons (de_var 4 rfl) da_nil))))))
      (fun v B hp' h => by obtain ⟨n', c', h1, h2⟩ := h; exact ⟨⟨(n', c'), h1⟩, h2⟩) fun q => dss_nil (wk_mask [true, true, true, true, true, true, true, false, false] _) ⟨q.1.1, q.1.2, by have := q.2; omega, rfl, rfl⟩
  · rintro s h ⟨n', c', hc, rfl, rfl⟩
    have hlen : (ts.zip (List.range ts.length)).length = ways.length := by rw [List.length_zip, List.length_range]; omega
    rw [hlen] at hc
    exact dss_nil (Wk.refl _) fun B => ⟨n', c', by show c + 1 ≤ c'; omega, rfl⟩
abbrev spLetsCases (K : PySem.W.Frag) : Sp := spP (γ := Rws × Sh × PyData) (fun y => [isHeap (HC K) y.1, isD (eSheet y.2.1), isD y.2.2]) (fun y => OkR y.1 ∧ OkS y.2.1 ∧ TreeOk y.1 y.2.1 (begunL y.2.1) y.2.2) (fun y => exA fun c : Int => andA (0 < c) (isI c))
theorem ok_lets_cases (Y : Bi mg) (c1 : ∀ m, m ≤ 3 → C8.Cal P w K mg base (2 * m + 6) "look_at" (spLookAt K m) []) (c2 : C8.Cal P w K mg base 1 "begun_ways" spBegun []) (F : FnD K d_lets_cases f fd) : FnOk P w K mg base CX0 13 f fd ["heap", "sheet", "thing"] (spLetsCases K) := by
  refine ok_ds F sc_lets_cases _ _ _ _ (fun _ => rfl) fun y hy cdv A outer s H E hr => ?_
  obtain ⟨rows, sheet, t⟩ := y
  obtain ⟨okr, oks, tree⟩ := hy
  have okr : OkR rows := okr
  have oks : OkS sheet := oks
  have hm : noneN (begunL sheet) ≤ 3 := by
    have h1 := noneN_le (tk := begunL sheet)
    have h2 := (begunOk oks).len
    have h3 := oks.len
    omega
  refine dss_newL2 (i := 3) (d := .int 0) (d2 := .int 0) de_int de_int (fun a ha => ?_) sc_lets_cases.nd
  refine dss_exprX (α := { q : Int × Int // 0 + 1 ≤ q.2 }) (Cs := fun q => seenC a q.1.1 q.1.2) (dx_call0 (c1 _ hm) hr (by omega) (LkIn.mk rows sheet (begunL sheet) t a 0 0) ⟨okr, oks, begunOk oks, tree, rfl⟩ (da_cons (de_var 0 rfl) (da_cons (de_var 1 rfl) (da_cons (de_callP c2 hr (by omega) sheet (Nat.le_trans oks.len (by decide)) (da_cons (de_var 1 rfl) da_nil)) (da_cons (de_var 2 rfl) (da_cons (de_var 3 rfl) da_nil))))))
    (fun v B hp' h => by obtain ⟨n', c', h1, h2⟩ := h; exact ⟨⟨(n', c'), h1⟩, h2⟩) fun q => ?_
  exact dss_ret (A := isI q.1.2) (hp1 := []) (de_drop (hp1 := []) (hp2 := seenC a q.1.1 q.1.2) (de_ixOwn (d := .int q.1.2) 0 rfl ix1' (de_var 3 rfl) de_int)) fun v B h => ⟨rfl, _, by have := q.2; omega, h⟩
end
end PK
end
section
set_option Elab.async false
set_option linter.all false
set_option maxRecDepth 100000
set_option maxHeartbeats 2000000
/-! what a heap counts -/
namespace PK
open PySem PySem.Spec PyProof.Rows L2
open PM (Want manyP manyF ls rs letsL aget aput keys dg)
theorem aget_setd {d : DP} {x q : Str × Str} : aget (setd d x 0) q = if q = x then some ((aget d x).getD 0) else aget d q := by
  unfold setd
  cases h : aget d x with
  | none => rw [PM.aget_put]; by_cases e : q = x <;> simp [e]
  | some v => by_cases e : q = x <;> simp [e, h]
theorem nodup_setd {d : DP} {x : Str × Str} (h : (keys d).Nodup) : (keys (setd d x 0)).Nodup := by
  unfold setd
  cases aget d x with
  | none => exact PM.nodup_aput h
  | some v => exact h
theorem cntStep_get {d : DP} {r : Str × Str × Int} {q : Str × Str} : aget (cntStep d r) q = if q = (r.1, r.2.1) then some ((aget d q).getD 0 + r.2.2) else aget d q := by
  unfold cntStep
  rw [PM.aget_put, aget_setd]
  by_cases e : q = (r.1, r.2.1)
  · subst e; simp
  · simp [e]
theorem cnt_facts : ∀ (rows : Rws) (d : DP), (keys d).Nodup → (keys (rows.foldl cntStep d)).Nodup ∧ (∀ q, dg (rows.foldl cntStep d) q = dg d q + manyP rows q.1 q.2) ∧ ∀ q, (aget (rows.foldl cntStep d) q).isSome = true ↔ (aget d q).isSome = true ∨ ∃ r ∈ rows, (r.1, r.2.1) = q
  | [], d, h => ⟨h, fun q => by show dg d q = dg d q + ls [] _; rw [PM.ls_nil]; omega, fun q => by simp⟩
  | r :: rows, d, h => by
    obtain ⟨h1, h2, h3⟩ := cnt_facts rows (cntStep d r) (by unfold cntStep; exact PM.nodup_aput (nodup_setd h))
    refine ⟨h1, fun q => ?_, fun q => ?_⟩
    · show dg (rows.foldl cntStep (cntStep d r)) q = _
      rw [h2 q]
      have e : dg (cntStep d r) q = dg d q + if q = (r.1, r.2.1) then r.2.2 else 0 := by
        unfold dg
        rw [cntStep_get]
        by_cases e : q = (r.1, r.2.1)
        · rw [if_pos e, if_pos e]; rfl
        · rw [if_neg e, if_neg e]; omega
      rw [e]
      have e2 : manyP (r :: rows) q.1 q.2 = (if q = (r.1, r.2.1) then r.2.2 else 0) + manyP rows q.1 q.2 := by
        unfold manyP
        rw [List.filter_cons]
        by_cases e : q = (r.1, r.2.1)
        · subst e
          rw [if_pos rfl, if_pos (by simp), PM.ls_cons]
        · rw [if_neg e, if_neg]
          · omega
          · intro z
            simp only [Bool.and_eq_true, decide_eq_true_eq] at z
            exact e (Prod.ext z.1.symm z.2.symm)
      rw [e2]; omega
    · show (aget (rows.foldl cntStep (cntStep d r)) q).isSome = true ↔ _
      rw [h3 q, cntStep_get]
      by_cases e : q = (r.1, r.2.1)
      · subst e; simp
      · rw [if_neg e]
        constructor
        · rintro (h | ⟨x, hx, rfl⟩)
          · exact .inl h
          · exact .inr ⟨x, List.mem_cons_of_mem _ hx, rfl⟩
        · rintro (h | ⟨x, hx, he⟩)
          · exact .inl h
          · rcases List.mem_cons.mp hx with rfl | hx
            · exact absurd he.symm e
            · exact .inr ⟨x, hx, he⟩
theorem cnt_many {rows : Rws} (p : Str × Str) : dg (cnt rows) p = manyP rows p.1 p.2 := by
  have := (cnt_facts rows [] List.nodup_nil).2.1 p
  unfold cnt
  rw [this]
  show 0 + _ = _
  omega
theorem heap_mem {rows : Rws} {r : Str × Str × Int} (h : r ∈ heapRows rows) : (r.1, r.2.1) ∈ keys (cnt rows) ∧ r.2.2 = manyP rows r.1 r.2.1 := by
  obtain ⟨p, hp, rfl⟩ := List.mem_map.mp h
  exact ⟨(srt_perm _ _).mem_iff.mp hp, cnt_many p⟩
theorem heap_parts (rows : Rws) : (heapRows rows).map (fun r => (r.1, r.2.1)) = srt ePart (keys (cnt rows)) := by
  unfold heapRows
  rw [List.map_map]
  exact List.map_id _
theorem heap_nd (rows : Rws) : ((heapRows rows).map fun r => (r.1, r.2.1)).Nodup := by
  rw [heap_parts]
  exact (srt_perm _ _).nodup_iff.mpr (cnt_facts rows [] List.nodup_nil).1
theorem heap_many (rows : Rws) (f s : Str) : manyP (heapRows rows) f s = manyP rows f s := by
  by_cases h : (f, s) ∈ keys (cnt rows)
  · have hm : (f, s, dg (cnt rows) (f, s)) ∈ heapRows rows := by
      unfold heapRows
      exact List.mem_map.mpr ⟨(f, s), (srt_perm _ _).mem_iff.mpr h, rfl⟩
    have := PM.manyP_row (heap_nd rows) hm
    exact this.trans (cnt_many (f, s))
  · have h1 : aget (cnt rows) (f, s) = none := by
      cases q : aget (cnt rows) (f, s) with
      | none => rfl
      | some v => exact absurd (PM.aget_isSome_keys.mp (by rw [q]; rfl)) h
    have h2 : manyP rows f s = 0 := by
      have := cnt_many (rows := rows) (f, s)
      unfold dg at this
      rw [h1] at this
      exact this.symm
    rw [h2]
    unfold manyP
    have : (heapRows rows).filter (fun r => decide (r.1 = f) && decide (r.2.1 = s)) = [] := List.filter_eq_nil_iff.mpr fun r hr z => by
      simp only [Bool.and_eq_true, decide_eq_true_eq] at z
      have := (heap_mem hr).1
      rw [z.1, z.2] at this
      exact h this
    rw [this]; rfl
theorem heap_ok {rows : Rws} (ok : OkR rows) : OkR (heapRows rows) := by
  have hmem : ∀ r ∈ heapRows rows, ∃ x ∈ rows, x.1 = r.1 ∧ x.2.1 = r.2.1 ∧ r.2.2 = x.2.2 := fun r hr => by
    obtain ⟨h1, h2⟩ := heap_mem hr
    rcases ((cnt_facts rows [] List.nodup_nil).2.2 (r.1, r.2.1)).mp (PM.aget_isSome_keys.mpr h1) with h | ⟨x, hx, e⟩
    · cases h
    · have e1 : x.1 = r.1 := (Prod.mk.inj e).1
      have e2 : x.2.1 = r.2.1 := (Prod.mk.inj e).2
      refine ⟨x, hx, e1, e2, ?_⟩
      have := PM.manyP_row ok.nd hx
      rw [h2, ← e1, ← e2, this]
  refine ⟨heap_nd rows, fun r hr => ?_, fun r hr => ?_, fun r hr => ?_, fun r hr => ?_, ?_⟩
  · obtain ⟨x, hx, e1, _, _⟩ := hmem r hr
    rw [← e1]; exact ok.f x hx
  · obtain ⟨x, hx, _, e2, _⟩ := hmem r hr
    rw [← e2]; exact ok.s x hx
  · obtain ⟨x, hx, _, _, e3⟩ := hmem r hr
    rw [e3]; exact ok.n1 x hx
  · obtain ⟨x, hx, _, _, e3⟩ := hmem r hr
    rw [e3]; exact ok.n2 x hx
  · have h1 := PM.len_sub _ (rows.map fun r => (r.1, r.2.1)) (heap_nd rows) fun p hp => by
      obtain ⟨r, hr, rfl⟩ := List.mem_map.mp hp
      obtain ⟨x, hx, e1, e2, _⟩ := hmem r hr
      exact List.mem_map.mpr ⟨x, hx, by rw [e1, e2]⟩
    rw [List.length_map, List.length_map] at h1
    exact Nat.le_trans h1 ok.len
end PK
end
section
set_option Elab.async false
set_option linter.all false
set_option maxRecDepth 100000
set_option maxHeartbeats 8000000
namespace PK
open PySem PySem.Spec PyProof.Rows L2
open PM (Want manyP manyF ls letsL)
section
variable {X : Cx} {sl : SL} {hp : List Cell} {own0 : List Addr} {rest : List Stmt} {Nx : NxP} {Rt : RtP} {o e : Expr} {pos apos cpos : Pos} {a : Addr} {ds : List PyData}
theorem dss_extL2 {es' : List PyData} (j : Nat) (ho : DE X o sl hp (isV (.ref a)) hp) (he : DE X e sl hp (isD (.list es')) hp) (hj : hp[j]? = some ⟨a, oL ds⟩) (hz : ds.length + es'.length ≤ 1000000) (hr : DSs X own0 rest sl (hp.set j ⟨a, oL (ds ++ es')⟩) Nx Rt) (hs : swapsWith (.Call (.Attribute o "extend" apos) [e] [] cpos) none pos.line X.env = pure false := by rfl)
    (hbase : attributeBase o "extend" X.env (eval o X.env) = eval o X.env := by rfl)
    (hfew : ((backTo cpos (starEach [e] X.env)).all (fun x => !x.1) && (backToKw cpos (keywordEach [] X.env)).all (fun x => x.1.isSome)
      && decide ([e].length + ([] : List Keyword).length + (if ([] : List Keyword).isEmpty then 0 else 1) < 30)) = true := by rfl)
    (hline : (apos.endLine == cpos.line) = true := by rfl) (hst : starEach [e] X.env = (false, eval e X.env) :: starEach [] X.env := by rfl) (hplain : (backTo cpos (starEach [] X.env)).any (·.1) = false := by rfl) :
    DSs X own0 (.Expr (.Call (.Attribute o "extend" apos) [e] [] cpos) pos :: rest) sl hp Nx Rt :=
  dss_extL j ho he hj hz hr hs (pe_bm PySem.F.plainAttrs_list PySem.F.slot_list_extend PySem.F.type_list_extend mt_extend ho (da_cons he da_nil hst) hbase hfew hline hst hplain)
end
/-! ### all choices -/
def chStep (found : List (List Nat)) (ways : List (List Wt)) : List (List Nat) := found.flatMap fun c => (List.range ways.length).map fun k => c ++ [k]
def chL (sheet : Sh) : List (List Nat) := sheet.foldl chStep [[]]
theorem chStep_len {found : List (List Nat)} {ways : List (List Wt)} (h : ways.length ≤ 3) : (chStep found ways).length ≤ 3 * found.length :=
  flatMap_len (n := 3) fun c _ => by rw [List.length_map, List.length_range]; exact h
theorem chL_len : ∀ (sheet : Sh) (found : List (List Nat)), (∀ ways ∈ sheet, ways.length ≤ 3) → (sheet.foldl chStep found).length ≤ 3 ^ sheet.length * found.length
  | [], found, _ => by simp
  | ways :: sheet, found, h => by
    have h1 := chL_len sheet (chStep found ways) fun w hw => h w (List.mem_cons_of_mem _ hw)
    have h2 := chStep_len (found := found) (h ways (List.mem_cons_self ..))
    rw [List.foldl_cons, List.length_cons, Nat.pow_succ]
    refine Nat.le_trans h1 ?_
    rw [Nat.mul_assoc]
    exact Nat.mul_le_mul_left _ h2
theorem chL_take {sheet : Sh} (ok : OkS sheet) (i : Nat) : (chL (sheet.take i)).length ≤ 27 := by
  have h1 := chL_len (sheet.take i) [[]] fun w hw => ok.ways3 w (List.mem_of_mem_take hw)
  have h2 : (sheet.take i).length ≤ 3 := by rw [List.length_take]; have := ok.len; omega
  have h3 : 3 ^ (sheet.take i).length ≤ 3 ^ 3 := Nat.pow_le_pow_right (by decide) h2
  have h4 : (sheet.foldl chStep [[]]).length = (sheet.foldl chStep [[]]).length := rfl
  unfold chL
  rw [List.length_singleton, Nat.mul_one] at h1
  exact Nat.le_trans h1 (Nat.le_trans h3 (by decide))
theorem mem_chStep {found : List (List Nat)} {ways : List (List Wt)} {c : List Nat} : c ∈ chStep found ways ↔ ∃ c', c' ∈ found ∧ ∃ k, k < ways.length ∧ c = c' ++ [k] := by
  unfold chStep
  rw [List.mem_flatMap]
  constructor
  · rintro ⟨c', h1, h2⟩
    obtain ⟨k, hk, rfl⟩ := List.mem_map.mp h2
    exact ⟨c', h1, k, List.mem_range.mp hk, rfl⟩
  · rintro ⟨c', h1, k, hk, rfl⟩
    exact ⟨c', h1, List.mem_map.mpr ⟨k, List.mem_range.mpr hk, rfl⟩⟩
/-- a choice -/
inductive Chs : Sh → List Nat → Prop
  | nil : Chs [] []
  | snoc {sheet : Sh} {ways : List (List Wt)} {c : List Nat} {k : Nat} : Chs sheet c → k < ways.length → Chs (sheet ++ [ways]) (c ++ [k])
theorem chL_snoc (sheet : Sh) (ways : List (List Wt)) : chL (sheet ++ [ways]) = chStep (chL sheet) ways := by
  unfold chL; rw [List.foldl_append]; rfl
theorem OkC.snoc {sheet : Sh} {ways : List (List Wt)} {c : List Nat} {k : Nat} (h : OkC sheet c) (hk : k < ways.length) : OkC (sheet ++ [ways]) (c ++ [k]) where
  len := by rw [List.length_append, List.length_append, h.len]; rfl
  at_ j ws i hj hi := by
    by_cases hl : j < sheet.length
    · rw [List.getElem?_append_left hl] at hj
      rw [List.getElem?_append_left (by rw [h.len]; exact hl)] at hi
      exact h.at_ j ws i hj hi
    · rw [List.getElem?_append_right (by omega)] at hj
      rw [List.getElem?_append_right (by rw [h.len]; omega)] at hi
      have e0 : j - sheet.length = 0 := by
        have := (List.getElem?_eq_some_iff.mp hj).1
        simp at this; omega
      rw [h.len, e0] at hi
      rw [e0] at hj
      cases hj; cases hi; exact hk
theorem OkC.init {sheet : Sh} {ways : List (List Wt)} {c : List Nat} (h : OkC (sheet ++ [ways]) c) : ∃ c' k, c = c' ++ [k] ∧ OkC sheet c' ∧ k < ways.length := by
  have hl := h.len
  rw [List.length_append, List.length_singleton] at hl
  have hc : c ≠ [] := fun e => by rw [e] at hl; simp at hl
  refine ⟨c.dropLast, c.getLast hc, (List.dropLast_concat_getLast hc).symm, ⟨by rw [List.length_dropLast]; omega, fun j ws i hj hi => ?_⟩, ?_⟩
  · have hjl := (List.getElem?_eq_some_iff.mp hj).1
    have hil := (List.getElem?_eq_some_iff.mp hi).1
    refine h.at_ j ws i (by rw [List.getElem?_append_left hjl]; exact hj) ?_
    have e := (List.dropLast_concat_getLast hc).symm
    rw [e, List.getElem?_append_left hil]
    exact hi
  · refine h.at_ sheet.length ways _ (by simp) ?_
    have e := (List.dropLast_concat_getLast hc).symm
    have hd : c.dropLast.length = sheet.length := by rw [List.length_dropLast]; omega
    conv => lhs; rw [e]
    rw [List.getElem?_append_right (by omega), hd, Nat.sub_self]; rfl
theorem mem_chL : ∀ (n : Nat) (sheet : Sh), sheet.length = n → ∀ c, c ∈ chL sheet ↔ OkC sheet c
  | 0, sheet, hn, c => by
    have : sheet = [] := List.length_eq_zero_iff.mp hn
    subst this
    constructor
    · intro h
      have : c = [] := List.mem_singleton.mp h
      subst this
      exact ⟨rfl, fun j ws i hj => by simp at hj⟩
    · intro h
      have : c = [] := List.length_eq_zero_iff.mp h.len
      subst this
      exact List.mem_singleton.mpr rfl
  | n + 1, sheet, hn, c => by
    have hne : sheet ≠ [] := fun e => by rw [e] at hn; cases hn
    have e := (List.dropLast_concat_getLast hne).symm
    have hl : sheet.dropLast.length = n := by rw [List.length_dropLast]; omega
    have ih := mem_chL n sheet.dropLast hl
    generalize sheet.dropLast = sh at e ih
    generalize sheet.getLast hne = ways at e
    subst e
    rw [chL_snoc, mem_chStep]
    constructor
    · rintro ⟨c', h1, k, hk, rfl⟩
      exact ((ih c').mp h1).snoc hk
    · intro h
      obtain ⟨c', k, rfl, h1, h2⟩ := h.init
      exact ⟨c', (ih c').mpr h1, k, h2, rfl⟩
section
variable {P : Program} {w : World} {K : PySem.W.Frag} {mg : Str → Option Value} {base : Heap} {f : Addr} {fd : FuncData}
abbrev spChoices : Sp := spP (γ := Sh) (fun y => [isD (eSheet y)]) (fun y => OkS y) (fun y => isD (.tuple ((chL y).map eCh)))
abbrev spLawChoices : Sp := spP (γ := Sh) (fun y => [isD (eSheet y)]) (fun y => OkS y) (fun y => isD (.list ((chL y).map eCh)))
theorem ok_choices (Y : Bi mg) (F : FnD K d_choices f fd) : FnOk P w K mg base CX0 1 f fd ["sheet"] spChoices := by
  refine ok_ds F sc_choices _ _ _ _ (fun _ => rfl) fun sheet hy cdv A outer s H E hr => ?_
  have ok : OkS sheet := hy
  refine dss_set (i := 1) (hp1 := []) (A := isD (.list (([[]] : List (List Nat)).map eCh))) (de_lst (ds := [.tuple []]) (da_cons (de_tup (ds := []) da_nil) da_nil)) ?_ sc_choices.nd
  refine dss_for (di_tup (f := eWays) (xs := sheet) (hp1 := []) (de_var 0 rfl)) [2] (fun c => [isD (eWays c)]) (fun c _ => dg_name 2 sc_choices.nd rfl (Or.inl rfl))
    (fun i s h => s = [some (isD (eSheet sheet)), some (isD (.list ((chL (sheet.take i)).map eCh))), none, none, none, none] ∧ h = []) ⟨rfl, rfl⟩ ?_ ?_
  · rintro i ways s h hi ⟨rfl, rfl⟩
    have hl27 := chL_take ok i
    have hw3 := ok.ways3 ways (List.mem_of_getElem? hi)
    have hstep : chL (sheet.take (i + 1)) = chStep (chL (sheet.take i)) ways := foldl_take hi
    have hc3 : ∀ c ∈ chL (sheet.take i), c.length ≤ 3 := fun c hc => by
      have h1 := ((mem_chL _ (sheet.take i) rfl c).mp hc).len
      rw [h1, List.length_take]
      have := ok.len
      omega
    generalize chL (sheet.take i) = found at hl27 hstep hc3
    refine dss_newL (i := 3) (fun a ha => ?_) sc_choices.nd
    refine dss_for (di_list (f := eCh) (xs := found) (hp1 := [⟨a, oL []⟩]) (de_var 1 rfl)) [4] (fun c => [isD (eCh c)]) (fun c _ => dg_name 4 sc_choices.nd rfl (Or.inr rfl))
      (fun j s h => s = [some (isD (eSheet sheet)), some (isD (.list (found.map eCh))), some (isD (eWays ways)), some (isV (.ref a)), none, none] ∧ h = [⟨a, oL ((chStep (found.take j) ways).map eCh)⟩]) ⟨rfl, rfl⟩ ?_ ?_
    · rintro j c s h hj ⟨rfl, rfl⟩
      have hjl := (List.getElem?_eq_some_iff.mp hj).1
      have hlen : (chStep (found.take j) ways).length ≤ 81 := by
        have h1 := chStep_len (found := found.take j) hw3
        have h2 : (found.take j).length ≤ found.length := by rw [List.length_take]; omega
        omega
      have hes : ∀ k, PyData.tuple ((c.map fun i => PyData.int ((i : Nat) : Int)) ++ [natD k]) = eCh (c ++ [k]) := fun k => by
        show _ = PyData.tuple ((c ++ [k]).map _)
        rw [List.map_append]; rfl
      have hcl := hc3 c (List.mem_of_getElem? hj)
      refine dss_extL2 (es' := ((List.range ways.length).map fun k => c ++ [k]).map eCh) 0 (de_var 3 rfl) (de_eq (de_lcD (xs := List.range ways.length) [("k", 5)] [5] (fun k => [isI ((k : Nat) : Int)]) (fun _ => true) (fun k => eCh (c ++ [k])) sc_choices.nd
        (di_range1 (n := ways.length) Y.range (da_cons (de_eq (de_callB call_len_seq (rc_lenT (ds := ways.map eWants)) Y.len bt_len (da_cons (de_var 2 rfl) da_nil)) (by rw [List.length_map])) da_nil) (by omega)) (by show blkC N_choices (defScope s_choices) _ _ = true; decide +kernel) (fun k _ s H C cl fp => dg_name 5 sc_choices.nd rfl (Or.inl rfl)) (fun k _ s H C cl fp => dts_nil)
        (fun k _ _ s H C cl fp => de_eq (de_op op_catA (re_catT (ds := c.map fun i => PyData.int ((i : Nat) : Int)) (es := [natD k]) (Nat.le_trans (m := 4) (by rw [List.length_map]; simp; omega) (by decide))) (de_var 4 rfl) (de_tup (ds := [natD k]) (da_cons (de_var 5 rfl) da_nil))) (hes k)) (Nat.le_trans (m := 3) (by rw [List.length_range]; exact hw3) (by decide))) ?_) rfl (by rw [List.length_map, List.length_map, List.length_map, List.length_range]; omega) ?_
      · rw [List.filter_eq_self.mpr fun _ _ => rfl, List.map_map]; rfl
      · refine dss_nil (wk_mask [true, true, true, true, false, false] _) ⟨rfl, ?_⟩
        have e : chStep (found.take (j + 1)) ways = chStep (found.take j) ways ++ (List.range ways.length).map fun k => c ++ [k] := by
          unfold chStep; exact flatMap_take hj
        rw [e, List.map_append]; rfl
    · rintro s h ⟨rfl, rfl⟩
      rw [List.take_length]
      refine dss_freeze (hp := []) (hp' := []) 3 rfl ha ?_
      refine dss_set (i := 1) (hp1 := []) (de_var 3 rfl) ?_ sc_choices.nd
      rw [← hstep]
      exact dss_nil (wk_mask [true, true, false, false, false, false] _) ⟨rfl, rfl⟩
  · rintro s h ⟨rfl, rfl⟩
    rw [List.take_length]
    exact dss_ret (A := isD (.tuple ((chL sheet).map eCh))) (hp1 := []) (de_callTy call_tuple_of (rc_tupleL (ds := (chL sheet).map eCh)) Y.tuple bt_tuple (da_cons (de_var 1 rfl) da_nil)) fun v B h => ⟨rfl, h⟩
theorem ok_law_choices (Y : Bi mg) (F : FnD K d__law_choices f fd) : FnOk P w K mg base CX0 1 f fd ["_law_sheet_here"] spLawChoices := by
  refine ok_ds F sc__law_choices _ _ _ _ (fun _ => rfl) fun sheet hy cdv A outer s H E hr => ?_
  have ok : OkS sheet := hy
  refine dss_set (i := 1) (hp1 := []) (A := isD (.list (([[]] : List (List Nat)).map eCh))) (de_lst (ds := [.tuple []]) (da_cons (de_tup (ds := []) da_nil) da_nil)) ?_ sc__law_choices.nd
  refine dss_for (di_tup (f := eWays) (xs := sheet) (hp1 := []) (de_var 0 rfl)) [2] (fun c => [isD (eWays c)]) (fun c _ => dg_name 2 sc__law_choices.nd rfl (Or.inl rfl))
    (fun i s h => s = [some (isD (eSheet sheet)), some (isD (.list ((chL (sheet.take i)).map eCh))), none, none, none, none] ∧ h = []) ⟨rfl, rfl⟩ ?_ ?_
  · rintro i ways s h hi ⟨rfl, rfl⟩
    have hl27 := chL_take ok i
    have hw3 := ok.ways3 ways (List.mem_of_getElem? hi)
    have hstep : chL (sheet.take (i + 1)) = chStep (chL (sheet.take i)) ways := foldl_take hi
    have hc3 : ∀ c ∈ chL (sheet.take i), c.length ≤ 3 := fun c hc => by
      have h1 := ((mem_chL _ (sheet.take i) rfl c).mp hc).len
      rw [h1, List.length_take]
      have := ok.len
      omega
    generalize chL (sheet.take i) = found at hl27 hstep hc3
    refine dss_newL (i := 3) (fun a ha => ?_) sc__law_choices.nd
    refine dss_for (di_list (f := eCh) (xs := found) (hp1 := [⟨a, oL []⟩]) (de_var 1 rfl)) [4] (fun c => [isD (eCh c)]) (fun c _ => dg_name 4 sc__law_choices.nd rfl (Or.inr rfl))
      (fun j s h => s = [some (isD (eSheet sheet)), some (isD (.list (found.map eCh))), some (isD (eWays ways)), some (isV (.ref a)), none, none] ∧ h = [⟨a, oL ((chStep (found.take j) ways).map eCh)⟩]) ⟨rfl, rfl⟩ ?_ ?_
    · rintro j c s h hj ⟨rfl, rfl⟩
      have hjl := (List.getElem?_eq_some_iff.mp hj).1
      have hlen : (chStep (found.take j) ways).length ≤ 81 := by
        have h1 := chStep_len (found := found.take j) hw3
        have h2 : (found.take j).length ≤ found.length := by rw [List.length_take]; omega
        omega
      have hes : ∀ k, PyData.tuple ((c.map fun i => PyData.int ((i : Nat) : Int)) ++ [natD k]) = eCh (c ++ [k]) := fun k => by
        show _ = PyData.tuple ((c ++ [k]).map _)
        rw [List.map_append]; rfl
      have hcl := hc3 c (List.mem_of_getElem? hj)
      refine dss_extL2 (es' := ((List.range ways.length).map fun k => c ++ [k]).map eCh) 0 (de_var 3 rfl) (de_eq (de_lcD (xs := List.range ways.length) [("_law_way_here", 5)] [5] (fun k => [isI ((k : Nat) : Int)]) (fun _ => true) (fun k => eCh (c ++ [k])) sc__law_choices.nd
        (di_range1 (n := ways.length) Y.range (da_cons (de_eq (de_callB call_len_seq (rc_lenT (ds := ways.map eWants)) Y.len bt_len (da_cons (de_var 2 rfl) da_nil)) (by rw [List.length_map])) da_nil) (by omega)) (by show blkC N__law_choices (defScope s__law_choices) _ _ = true; decide +kernel) (fun k _ s H C cl fp => dg_name 5 sc__law_choices.nd rfl (Or.inl rfl)) (fun k _ s H C cl fp => dts_nil)
        (fun k _ _ s H C cl fp => de_eq (de_op op_catA (re_catT (ds := c.map fun i => PyData.int ((i : Nat) : Int)) (es := [natD k]) (Nat.le_trans (m := 4) (by rw [List.length_map]; simp; omega) (by decide))) (de_var 4 rfl) (de_tup (ds := [natD k]) (da_cons (de_var 5 rfl) da_nil))) (hes k)) (Nat.le_trans (m := 3) (by rw [List.length_range]; exact hw3) (by decide))) ?_) rfl (by rw [List.length_map, List.length_map, List.length_map, List.length_range]; omega) ?_
      · rw [List.filter_eq_self.mpr fun _ _ => rfl, List.map_map]; rfl
      · refine dss_nil (wk_mask [true, true, true, true, false, false] _) ⟨rfl, ?_⟩
        have e : chStep (found.take (j + 1)) ways = chStep (found.take j) ways ++ (List.range ways.length).map fun k => c ++ [k] := by
          unfold chStep; exact flatMap_take hj
        rw [e, List.map_append]; rfl
    · rintro s h ⟨rfl, rfl⟩
      rw [List.take_length]
      refine dss_freeze (hp := []) (hp' := []) 3 rfl ha ?_
      refine dss_set (i := 1) (hp1 := []) (de_var 3 rfl) ?_ sc__law_choices.nd
      rw [← hstep]
      exact dss_nil (wk_mask [true, true, false, false, false, false] _) ⟨rfl, rfl⟩
  · rintro s h ⟨rfl, rfl⟩
    rw [List.take_length]
    exact dss_ret (A := isD (.list ((chL sheet).map eCh))) (hp1 := []) (de_var 1 rfl) fun v B h => ⟨rfl, h⟩
end
end PK
end
section
set_option Elab.async false
set_option linter.all false
set_option maxRecDepth 100000
set_option maxHeartbeats 8000000
namespace PK
open PySem PySem.Spec PyProof.Rows L2
open PM (Want manyP manyF ls letsL)
theorem hu65 {A : Around} {k : Nat} (hr : Room k A) : A.units + 65 < cLine := by have := hr.un; omega
/-! ### a call with one keyword -/
structure CalW (P : Program) (w : World) (K : PySem.W.Frag) (mg : Str → Option Value) (base : Heap) (k : Nat) (x : Str) (sp : Sp) (n : Nat) (ks : List Str) (gV : List V → List V → List V) : Prop where
  ex : ∃ (f : Addr) (fd : FuncData) (ps : List Str) (g : List Value → List Value → List Value), FnOk P w K mg base CX0 k f fd ps sp ∧ mg x = some (.ref f) ∧ PySem.W.keepIn K (.ref f) = true ∧ KBn K fd ps n ks g gV
section
variable {X : Cx} {sl : SL} {hp hp1 hp2 : List Cell} {x : Str} {e e2 : Expr} {p pos kpos : Pos} {k j : Nat} {γ : Type} {As : γ → List MA} {pre : γ → Prop} {R : γ → MA} {A1 A2 A : MA} {nm : Str}
theorem de_callW (c : CalW X.prog X.w X.K X.mg X.base k x (spP As pre R) 1 [nm] (fun vs zs => vs ++ zs)) (hr : Room j X.A) (hk : k ≤ j) (y : γ) (hy : pre y) (ha : DE X e sl hp A1 hp1) (hb : DE X e2 sl hp1 A2 hp2) (hAs : As y = [A1, A2])
    (hg : Gl X x := by rfl) (hall : (backToKw pos (keywordEach [⟨some nm, e2, kpos⟩] X.env)).all (·.1.isSome) = true := by rfl) (hks : (backToKw pos (keywordEach [⟨some nm, e2, kpos⟩] X.env)).filterMap (·.1) = [nm] := by rfl)
    (hdb : (x == ("__debug__" : Str)) = false := by decide) (he : starEach [e] X.env = (false, eval e X.env) :: starEach [] X.env := by rfl)
    (hpl : ((backTo pos (starEach [e] X.env)).any (·.1) || (backToKw pos (keywordEach [⟨some nm, e2, kpos⟩] X.env)).any (·.1.isNone)) = false := by rfl) (hA : R y = A := by rfl) :
    DE X (.Call (.Name x p) [e] [⟨some nm, e2, kpos⟩] pos) sl hp A hp2 := by
  subst hA
  obtain ⟨f, fd, ps, g, F, hm, kp, kb⟩ := c.ex
  refine pe_imp (pe_callN F (hr.mono hk) hg hm kp kb pass0 (da_cons ha da_nil he) (pk_cons hb pk_nil) hall hks hdb he hpl) fun σ H Q ⟨Z, B, S, T, k⟩ => ⟨Z, B, S, T, fun vs B1 H1 m1 S1 q1 => ⟨Z, B1, S1, T.mono m1, fun v B2 H2 m2 S2 q2 => ?_⟩⟩
  obtain ⟨u, rfl, hu⟩ := all2_one q1
  refine ⟨rfl, rfl, y, B2, hy, by rw [hAs]; exact .cons (A1.mono m2 hu) (.cons q2 .nil), Sat.enter (hp := []) (fr := hp2) S2, fun v B' H' hp' S' q => ?_⟩
  obtain ⟨rfl, q⟩ := q
  exact k v B' H' (m1.trans (m2.trans S'.b0)) (Sat.call (hp := []) (fr := hp2) S2 S') q
end
theorem canLay_nats' (R : List Nat) : PyData.canLay0 (eCh R) = true := canLay_ints R
theorem eCh_depth (c : List Nat) : PyData.depth (eCh c) ≤ 1 := by
  show PyData.depthAll (c.map natD) + 1 ≤ 1
  rw [depth_nats]
  exact Nat.le_refl 1
theorem eCh_shaped (c : List Nat) : SeqAt.shaped (eCh c) = true := by
  unfold SeqAt.shaped
  rw [Bool.and_eq_true]
  exact ⟨canLay_nats' c, decide_eq_true (Nat.le_trans (eCh_depth c) (by decide))⟩
theorem eChs_shaped (cs : List (List Nat)) : SeqAt.shaped (.tuple (cs.map eCh)) = true := by
  unfold SeqAt.shaped
  rw [Bool.and_eq_true]
  refine ⟨canLay_of fun t ht => ?_, decide_eq_true ?_⟩
  · obtain ⟨c, _, rfl⟩ := List.mem_map.mp ht
    exact canLay_nats' c
  · have : PyData.depthAll (cs.map eCh) ≤ 1 := depth_of fun t ht => by
      obtain ⟨c, _, rfl⟩ := List.mem_map.mp ht
      exact eCh_depth c
    show PyData.depthAll (cs.map eCh) + 1 ≤ 64
    omega
theorem alike_nats : ∀ c : List Nat, PySem.W.alikeAll (c.map natD) (c.map natD) = true
  | [] => by simp [PySem.W.alikeAll]
  | k :: c => by
    have := alike_nats c
    simp [PySem.W.alikeAll, PySem.W.alike, this]
theorem eqv_ch (c : List Nat) : PyData.eqv (eCh c) (eCh c) = true := PySem.W.eqv_refl_alike _ (by
  show PySem.W.alike (.tuple (c.map natD)) (.tuple (c.map natD)) = true
  simp only [PySem.W.alike]
  exact alike_nats c)
section
variable {P : Program} {w : World} {K : PySem.W.Frag} {mg : Str → Option Value} {base : Heap} {f : Addr} {fd : FuncData}
structure OkGs (ws : List Wt) (gs : List Gf) : Prop where
  wl : ws.length ≤ 6
  gl : gs.length = ws.length
  g : ∀ g ∈ gs, g.length ≤ 100
theorem OkGv.gs {ws : List Wt} {gs : List Gf} (hw : OkWs ws) (h : OkGv ws gs) : OkGs ws gs := ⟨hw.len, h.len, fun g hg => by
  obtain ⟨i, hi⟩ := List.getElem?_of_mem hg
  have hil := (List.getElem?_eq_some_iff.mp hi).1
  have hiw : i < ws.length := by rw [← h.len]; exact hil
  have h1 : ws[i]? = some ws[i] := List.getElem?_eq_getElem hiw
  exact (h.g _ (List.mem_of_getElem? (List.getElem?_zip_eq_some.mpr ⟨h1, hi⟩ : (ws.zip gs)[i]? = some (ws[i], g)))).len⟩
abbrev spGivenSum (K : PySem.W.Frag) : Sp := spP (γ := List Wt × List Gf) (fun y => [isD (eWants y.1), isD (eGiven y.2)]) (fun y => OkGs y.1 y.2) (fun y => isHeap (HC K) (heapRows (givenRows y.1 y.2)))
theorem givenAt_len {ws : List Wt} {gs : List Gf} (ok : OkGs ws gs) (i : Nat) : (((ws.zip gs).take i).flatMap fun q => q.2.map fun p => ((q.1.f, p.1, p.2) : Str × Str × Int)).length ≤ 600 := by
  have h1 := flatMap_len (f := fun q : Wt × Gf => q.2.map fun p => ((q.1.f, p.1, p.2) : Str × Str × Int)) (n := 100) (xs := (ws.zip gs).take i) fun q hq => by
    rw [List.length_map]
    exact ok.g _ (List.of_mem_zip (show (q.1, q.2) ∈ ws.zip gs from List.mem_of_mem_take hq)).2
  have h2 : ((ws.zip gs).take i).length ≤ ws.length := by simp; omega
  have := ok.wl
  omega
theorem ok_given_sum (Y : Bi mg) (c : C8.Mak P w K mg base 2 "Heap" (HC K) (spInit K) []) (F : FnD K d_given_sum f fd) : FnOk P w K mg base CX0 4 f fd ["wants", "given"] (spGivenSum K) := by
  refine ok_ds F sc_given_sum _ _ _ _ (fun _ => rfl) fun y hy cdv A outer s H E hr => ?_
  obtain ⟨ws, gs⟩ := y
  have ok : OkGs ws gs := hy
  refine dss_newL (i := 2) (fun a ha => ?_) sc_given_sum.nd
  refine dss_for (di_zip (f := eWant) (g := eGift) (xs := ws) (ys := gs) Y.zip (de_var 0 rfl) (de_var 1 rfl)) [3, 4] (fun q => [isD (eWant q.1), isD (eGift q.2)]) (fun q _ => dg_tup2 rfl (fun A => dg_name 3 sc_given_sum.nd rfl (by first | exact Or.inl rfl | exact Or.inr rfl)) (fun A => dg_name 4 sc_given_sum.nd rfl (Or.inl rfl)))
    (fun i s h => s = [some (isD (eWants ws)), some (isD (eGiven gs)), some (isV (.ref a)), none, none, none, none] ∧ h = [⟨a, oL ((((ws.zip gs).take i).flatMap fun q => q.2.map fun p => ((q.1.f, p.1, p.2) : Str × Str × Int)).map eRow)⟩]) ⟨rfl, rfl⟩ ?_ ?_
  · rintro i q s h hq ⟨rfl, rfl⟩
    have h1 := givenAt_len ok i
    have hgl := ok.g q.2 (List.of_mem_zip (show (q.1, q.2) ∈ ws.zip gs from List.mem_of_getElem? hq)).2
    refine dss_extL2 (es' := (q.2.map fun p => ((q.1.f, p.1, p.2) : Str × Str × Int)).map eRow) 0 (de_var 2 rfl) (de_eq (de_lcD (xs := q.2) [("shade", 5), ("many", 6)] [5, 6] (fun p => [isS p.1, isI p.2]) (fun _ => true) (fun p => eRow (q.1.f, p.1, p.2)) sc_given_sum.nd
      (di_tup (f := ePair) (de_var 4 rfl)) (by show blkC N_given_sum (defScope s_given_sum) _ _ = true; decide +kernel) (fun p _ s H C cl fp => dg_tup2 rfl (fun A => dg_name 5 sc_given_sum.nd rfl (Or.inl rfl)) (fun A => dg_name 6 sc_given_sum.nd rfl (Or.inl rfl))) (fun p _ s H C cl fp => dts_nil)
      (fun p _ _ s H C cl fp => de_tup (ds := [.str q.1.f, .str p.1, .int p.2]) (da_cons (de_ixT ix0 (de_var 3 rfl) de_int) (da_cons (de_var 5 rfl) (da_cons (de_var 6 rfl) da_nil)))) (Nat.le_trans hgl (by decide))) ?_) rfl (by rw [List.length_map, List.length_map, List.length_map]; omega) ?_
    · rw [List.filter_eq_self.mpr fun _ _ => rfl, List.map_map]; rfl
    · refine dss_nil (wk_mask [true, true, true, false, false, false, false] _) ⟨rfl, ?_⟩
      rw [flatMap_take hq, List.map_append]; rfl
  · rintro s h ⟨rfl, rfl⟩
    rw [List.take_length]
    have h1 := givenAt_len ok (ws.zip gs).length
    rw [List.take_length] at h1
    refine dss_freeze (hp := []) (hp' := []) 2 rfl ha ?_
    exact dss_ret (A := isHeap (HC K) (heapRows (givenRows ws gs))) (hp1 := []) (de_heap c hr (by omega) (Nat.le_trans h1 (by decide)) (de_callTy call_tuple_of (rc_tupleL (ds := (givenRows ws gs).map eRow)) Y.tuple bt_tuple (da_cons (de_var 2 rfl) da_nil))) fun v B h => ⟨rfl, h⟩
abbrev spServes (K : PySem.W.Frag) : Sp := spP (γ := Rws × List Wt × List Gf) (fun y => [isHeap (HC K) y.1, isD (eWants y.2.1), isD (eGiven y.2.2)]) (fun y => y.1.length ≤ 1000 ∧ OkGs y.2.1 y.2.2 ∧ Serves y.1 y.2.1 y.2.2) (fun y => isB true)
theorem ok_serves (Y : Bi mg) (c1 : C8.Met P w K mg base 3 (HC K) "holds" (spHolds K) []) (c2 : C8.Cal P w K mg base 4 "given_sum" (spGivenSum K) []) (F : FnD K d_serves f fd) : FnOk P w K mg base CX0 5 f fd ["heap", "wants", "given"] (spServes K) := by
  refine ok_ds F sc_serves _ _ _ _ (fun _ => rfl) fun y hy cdv A outer s H E hr => ?_
  obtain ⟨rows, ws, gs⟩ := y
  obtain ⟨h1, h2, h3⟩ := hy
  have h3 : Serves rows ws gs := h3
  refine dss_ret (A := isB true) (hp1 := []) (de_meth c1 hr (by omega) (rows, heapRows (givenRows ws gs)) ⟨h1, fun r hr => ?_⟩ (de_var 0 rfl) (heap_no (by decide)) (da_cons (de_callP c2 hr (by omega) (ws, gs) h2 (da_cons (de_var 1 rfl) (da_cons (de_var 2 rfl) da_nil))) da_nil) (fun B v vs h1 h2 => by rw [List.append_nil]; exact .cons h1 h2)) fun v B h => ⟨rfl, h⟩
  obtain ⟨_, e⟩ := heap_mem hr
  rw [e]
  exact h3 r.1 r.2.1
abbrev spIsDealing (K : PySem.W.Frag) : Sp := spP (γ := Rws × Sh × List Nat × List Gf) (fun y => [isHeap (HC K) y.1, isD (eSheet y.2.1), isD (eFound y.2.2)]) (fun y => OkR y.1 ∧ OkS y.2.1 ∧ OkC y.2.1 y.2.2.1 ∧ OkGv (chosenW y.2.1 y.2.2.1) y.2.2.2 ∧ Serves y.1 (chosenW y.2.1 y.2.2.1) y.2.2.2) (fun y => isB true)
theorem chosenW_ok {sheet : Sh} {cs : List Nat} (ok : OkS sheet) (oc : OkC sheet cs) : OkWs (chosenW sheet cs) := by
  rw [chosenW_eq]
  refine takenW_ok ok ⟨by rw [List.length_map]; exact oc.len, fun k ways i hk hi => ?_⟩
  rw [List.getElem?_map] at hi
  cases q : cs[k]? with
  | none => rw [q] at hi; cases hi
  | some j =>
    rw [q] at hi
    cases hi
    exact oc.at_ k ways _ hk q
theorem ok_is_dealing (Y : Bi mg) (c1 : C8.Cal P w K mg base 1 "is_number" spNumber []) (c2 : C8.Cal P w K mg base 1 "choices" spChoices []) (c3 : CalW P w K mg base 1 "wants_of" spWantsOf 1 ["choice"] fun vs zs => vs ++ zs) (c4 : C8.Cal P w K mg base 4 "is_given" spAreGifts []) (c5 : C8.Cal P w K mg base 5 "serves" (spServes K) []) (F : FnD K d_is_dealing f fd) : FnOk P w K mg base CX0 6 f fd ["heap", "sheet", "thing"] (spIsDealing K) := by
  refine ok_ds F sc_is_dealing _ _ _ _ (fun _ => rfl) fun y hy cdv A outer s H E hr => ?_
  obtain ⟨rows, sheet, cs, gs⟩ := y
  obtain ⟨okr, oks, okc, okg, sv⟩ := hy
  have okr : OkR rows := okr
  have oks : OkS sheet := oks
  have okc : OkC sheet cs := okc
  have okg : OkGv (chosenW sheet cs) gs := okg
  have hcl : cs.length ≤ 3 := by rw [okc.len]; exact oks.len
  have okw := chosenW_ok oks okc
  refine dss_ifr (b := false || (false || false)) (dt_w (dw_or (dt_not (t := true) (dt_val ?_)) fun _ => dw_or (dt_eq (dt_cmp op_ne re_neI (de_callB call_len_seq (rc_lenT (ds := [.tuple (cs.map natD), eGiven gs])) Y.len bt_len (da_cons (de_var 2 rfl) da_nil)) de_int) (by rfl)) fun _ => dw_or1 (dt_not (t := true) (dt_val ?_)))) (fun h => by cases h) fun _ => ?_
  · exact de_callB call_isi (rc_isi (d := eFound (cs, gs)) kit_tt) Y.isinstance bt_isinstance (da_cons (de_var 2 rfl) (da_cons (de_bi Y.tuple bt_tuple) da_nil))
  · exact de_callB call_isi (rc_isi (d := eCh cs) kit_tt) Y.isinstance bt_isinstance (da_cons (de_ixT (ds := [.tuple (cs.map natD), eGiven gs]) (d := eCh cs) ix0 (de_var 2 rfl) de_int) (da_cons (de_bi Y.tuple bt_tuple) da_nil))
  refine dss_ifr (b := false || false) (dt_w (dw_or (dt_not (t := true) (dt_val (de_eq (de_callB (cr_all rfl) (rc_all (bs := cs.map fun _ => true)) Y.all bt_all (da_cons (de_eq (de_lcD (xs := cs) [("place", 4)] [4] (fun k => [isD (natD k)]) (fun _ => true) (fun _ => .bool true) sc_is_dealing.nd
      (di_tup (f := natD) (de_ixT (ds := [.tuple (cs.map natD), eGiven gs]) (d := eCh cs) ix0 (de_var 2 rfl) de_int)) (by show blkC N_is_dealing (defScope s_is_dealing) _ _ = true; decide +kernel) (fun k _ s H C cl fp => dg_name 4 sc_is_dealing.nd rfl (Or.inl rfl)) (fun k _ s H C cl fp => dts_nil)
      (fun k _ _ s H C cl fp => de_callP c1 hr (by omega) (k : Int) trivial (da_cons (de_var 4 rfl) da_nil)) (Nat.le_trans hcl (by decide))) ?_) da_nil)) ?_))) fun _ => dw_or1 (dt_eq (dt_cmp (op_notInT (hu64 hr) (hu65 hr)) (re_notInT (d := eCh cs) (ds := (chL sheet).map eCh) (eCh_shaped cs) (eChs_shaped _)) (de_ixT (ds := [.tuple (cs.map natD), eGiven gs]) (d := eCh cs) ix0 (de_var 2 rfl) de_int) (de_callP c2 hr (by omega) sheet oks (da_cons (de_var 1 rfl) da_nil))) ?_))) (fun h => by cases h) fun _ => ?_
  · rw [List.filter_eq_self.mpr fun _ _ => rfl, List.map_map]; rfl
  · rw [map_true]
  · have : ((chL sheet).map eCh).any (fun z => PyData.eqv z (eCh cs)) = true := List.any_eq_true.mpr ⟨eCh cs, List.mem_map_of_mem (f := eCh) ((mem_chL _ sheet rfl cs).mpr okc), eqv_ch cs⟩
    rw [this]; rfl
  refine dss_set (i := 3) (A := isD (eWants (chosenW sheet cs))) (hp1 := []) (de_callW (nm := "choice") c3 hr (by omega) (sheet, cs) ⟨oks, okc⟩ (de_var 1 rfl) (de_ixT (ds := [.tuple (cs.map natD), eGiven gs]) (d := eCh cs) ix0 (de_var 2 rfl) de_int) rfl) ?_ sc_is_dealing.nd
  exact dss_ret (A := isB (true && true)) (hp1 := []) (de_and0 (de_callP c4 hr (by omega) (chosenW sheet cs, gs) ⟨okw, okg⟩ (da_cons (de_var 3 rfl) (da_cons (de_ixT (ds := [.tuple (cs.map natD), eGiven gs]) (d := eGiven gs) ix1 (de_var 2 rfl) de_int) da_nil))) fun _ => de_one (de_callP c5 hr (by omega) (rows, chosenW sheet cs, gs) ⟨okr.len', okg.gs okw, sv⟩ (da_cons (de_var 0 rfl) (da_cons (de_var 3 rfl) (da_cons (de_ixT (ds := [.tuple (cs.map natD), eGiven gs]) (d := eGiven gs) ix1 (de_var 2 rfl) de_int) da_nil))))) fun v B h => ⟨rfl, h⟩
end
end PK
end
section
set_option Elab.async false
set_option linter.all false
set_option maxRecDepth 100000
set_option maxHeartbeats 8000000
namespace PK
open PySem PySem.Spec PyProof.Rows L2
open PM (Want manyP manyF ls letsL)
/-! ### the script, the tape -/
theorem Rd.same {B B' : Hp} {a : Addr} {o : HO} (m : Same B B') (h : Rd B a o) : Rd B' a o := by
  rcases h with h | ⟨od, h⟩
  · exact .inl (m _ _ h)
  · exact .inr ⟨od, m _ _ h⟩
theorem SqL.same {K : PySem.W.Frag} {B B' : Hp} {a : Addr} {xs : List V} (m : Same B B') (h : SqL K B a xs) : SqL K B' a xs := by
  rcases h with h | h
  · exact .inl (Rd.same m h)
  · exact .inr h
def isScr (K : PySem.W.Frag) (ns : List Int) : MA := ⟨fun v B => ∃ a, v = .ref a ∧ SqL K B a (ns.map V.int), fun m ⟨a, h1, h2⟩ => ⟨a, h1, SqL.same m h2⟩⟩
section
variable {X : Cx} {sl : SL} {hp : List Cell} {a lo hi : Expr} {pos p2 : Pos} {ns : List Int}
theorem cutV_ints (l h : Option Int) : ∃ ms : List Int, cutV (ns.map V.int) l h = ms.map V.int ∧ ms.length ≤ ns.length := by
  unfold cutV
  refine ⟨(ns.drop (HT.sIx (ns.map V.int).length 0 l)).take (HT.sIx (ns.map V.int).length (ns.map V.int).length h - HT.sIx (ns.map V.int).length 0 l), by rw [List.map_take, List.map_drop], ?_⟩
  rw [List.length_take, List.length_drop]; omega
theorem de_sliceScr {l h' : Option Int} (ha : DE X a sl hp (isScr X.K ns) hp) (hl : DO X (some lo) sl hp l hp) (hh : DO X (some hi) sl hp h' hp) : DE X (.Subscript a (.Slice (some lo) (some hi) none p2) pos) sl hp (exA fun ms : List Int => andA (ms.length ≤ ns.length) (isD (.list (ms.map .int)))) hp :=
  pe_imp (pe_slice sl_list ha hl hh) fun σ H Q ⟨Z, B, S, T, k⟩ => ⟨Z, B, S, T, fun v B1 H1 m1 S1 q1 => ⟨Z, B1, S1, T.mono m1, fun B2 H2 m2 S2 => ⟨Z, B2, S2, T.mono (m1.trans m2), fun B3 H3 m3 S3 => by
    obtain ⟨p, rfl, h1⟩ := q1
    obtain ⟨ms, e1, e2⟩ := cutV_ints (ns := ns) l h'
    refine ⟨p, ns.map V.int, rfl, SqL.same S3.bh (SqL.same m3 (SqL.same m2 h1)), fun q hq => ?_⟩
    rw [e1]
    obtain ⟨S4, m4⟩ := S3.alloc hq (.lst (ms.map V.int))
    exact k _ _ _ (m1.trans (m2.trans (m3.trans m4))) S4 ⟨ms, e2, .lst upd_same (rpl_mapI ms)⟩⟩⟩⟩
theorem de_sliceScr0 {h' : Option Int} (ha : DE X a sl hp (isScr X.K ns) hp) (hh : DO X (some hi) sl hp h' hp) : DE X (.Subscript a (.Slice none (some hi) none p2) pos) sl hp (exA fun ms : List Int => andA (ms.length ≤ ns.length) (isD (.list (ms.map .int)))) hp :=
  pe_imp (pe_slice sl_list ha (do_none (sl := sl) (hp := hp)) hh) fun σ H Q ⟨Z, B, S, T, k⟩ => ⟨Z, B, S, T, fun v B1 H1 m1 S1 q1 => ⟨Z, B1, S1, T.mono m1, fun B2 H2 m2 S2 => ⟨Z, B2, S2, T.mono (m1.trans m2), fun B3 H3 m3 S3 => by
    obtain ⟨p, rfl, h1⟩ := q1
    obtain ⟨ms, e1, e2⟩ := cutV_ints (ns := ns) none h'
    refine ⟨p, ns.map V.int, rfl, SqL.same S3.bh (SqL.same m3 (SqL.same m2 h1)), fun q hq => ?_⟩
    rw [e1]
    obtain ⟨S4, m4⟩ := S3.alloc hq (.lst (ms.map V.int))
    exact k _ _ _ (m1.trans (m2.trans (m3.trans m4))) S4 ⟨ms, e2, .lst upd_same (rpl_mapI ms)⟩⟩⟩⟩
theorem rc_listX {K : PySem.W.Frag} {n : Nat} : RC (fun xs H Q => ∃ p ys, xs = [.ref p] ∧ (SqL K H p ys ∨ SqT K H p ys) ∧ ∀ l, H l = none → Q (.ref l) (upd H l (.lst ys))) [exA fun ms : List Int => andA (ms.length ≤ n) (isD (.list (ms.map .int)))] (exA fun ms : List Int => andA (ms.length ≤ n) (isD (.list (ms.map .int)))) := fun Z B H hp vs Q S ha k => by
  obtain ⟨v, rfl, ms, hl, hv⟩ := all2_one ha
  cases hv with
  | lst h r =>
    rename_i a xs
    refine ⟨a, xs, rfl, .inl (SqL.of (S.bh _ _ h)), fun l hl2 => ?_⟩
    obtain ⟨S2, m2⟩ := S.alloc hl2 (.lst xs)
    exact k _ _ _ m2 S2 ⟨ms, hl, .lst upd_same (r.mono m2)⟩
end
structure Tp where
  L : List Int
  at_ : Int
  b : Int
  n : Int
  len : L.length ≤ 100
abbrev tpD (y : Tp) : List PyData := [.list (y.L.map .int), .int y.at_, .int y.b, .int y.n]
def oTape : MO := exO fun y : Tp => oL (tpD y)
abbrev tapeC (a : Addr) : List Cell := [⟨a, oTape⟩]
section
variable {X : Cx} {sl : SL} {hp : List Cell} {e e2 e3 e4 : Expr} {p : Pos} {n : Nat}
/-- [e, 0, 0, 0] -/
theorem dx_tape (h1 : DE X e sl [] (exA fun ms : List Int => andA (ms.length ≤ n) (isD (.list (ms.map .int)))) []) (h2 : DE X e2 sl [] (isI 0) []) (h3 : DE X e3 sl [] (isI 0) []) (h4 : DE X e4 sl [] (isI 0) []) (hn : n ≤ 100)
    (s1 : starEach [e, e2, e3, e4] X.env = (false, eval e X.env) :: starEach [e2, e3, e4] X.env := by rfl) (s2 : starEach [e2, e3, e4] X.env = (false, eval e2 X.env) :: starEach [e3, e4] X.env := by rfl) (s3 : starEach [e3, e4] X.env = (false, eval e3 X.env) :: starEach [e4] X.env := by rfl) (s4 : starEach [e4] X.env = (false, eval e4 X.env) :: starEach [] X.env := by rfl) :
    DX X (.List [e, e2, e3, e4] p) sl [] (fun v B hp' => ∃ a, v = .ref a ∧ hp' = tapeC a) :=
  pe_imp (pe_lst (da_cons h1 (da_cons h2 (da_cons h3 (da_cons h4 da_nil s4) s3) s2) s1)) fun σ H Q ⟨Z, B, S, T, k⟩ => ⟨Z, B, S, T, fun vs B1 H1 m1 S1 q1 => by
    cases q1 with
    | cons g1 q1 => cases q1 with
      | cons g2 q1 => cases q1 with
        | cons g3 q1 => cases q1 with
          | cons g4 q1 =>
            cases q1
            rename_i v1 v2 v3 v4
            obtain ⟨ms, hl, hv⟩ := g1
            refine ⟨by show 4 ≤ sizeLine; decide, fun p hp => ?_⟩
            obtain ⟨S2, hn2⟩ := S1.allocOwn hp (o := .lst [v1, v2, v3, v4]) (mo := oTape) ⟨⟨ms, 0, 0, 0, Nat.le_trans hl hn⟩, [v1, v2, v3, v4], rfl, .cons hv (.cons g2 (.cons g3 (.cons g4 .nil)))⟩
            exact k (.ref p) B1 _ _ m1 S2 ⟨p, rfl, rfl⟩⟩
end
theorem tp0 {a b c d : PyData} : atI [a, b, c, d] 0 = some a := ix0
theorem tp1 {a b c d : PyData} : atI [a, b, c, d] 1 = some b := ix1
theorem tp2 {a b c d : PyData} : atI [a, b, c, d] 2 = some c := ix2
theorem tp3 {a b c d : PyData} : atI [a, b, c, d] 3 = some d := atI_nat' (j := 3) rfl
theorem canLay_int : ∀ R : List Int, PyData.canLayAll0 (R.map .int) = true
  | [] => rfl
  | k :: R => by
    have := canLay_int R
    simp [PyData.canLayAll0, PyData.canLay0, this]
theorem depth_int : ∀ R : List Int, PyData.depthAll (R.map .int) = 0
  | [] => rfl
  | k :: R => by
    have := depth_int R
    simp [PyData.depthAll, PyData.depth, this]
theorem shaped_ints (R : List Int) : SeqAt.shaped (.list (R.map .int)) = true := by
  unfold SeqAt.shaped
  rw [Bool.and_eq_true]
  exact ⟨canLay_int R, by simp [PyData.depth, depth_int]⟩
section
variable {P : Program} {w : World} {K : PySem.W.Frag} {mg : Str → Option Value} {base : Heap} {f : Addr} {fd : FuncData}
abbrev spTape (K : PySem.W.Frag) : Sp := spOf (γ := List Int) (fun y => [isScr K y]) (fun _ => []) (fun y => y.length ≤ 63) (fun y v B hp' => ∃ a, v = .ref a ∧ hp' = tapeC a)
theorem ok_law_tape (Y : Bi mg) (F : FnD K d__law_tape f fd) : FnOk P w K mg base CX0 1 f fd ["_law_script"] (spTape K) := by
  refine ok_ds F sc__law_tape _ _ _ _ (fun _ => rfl) fun ns hy cdv A outer s H E hr => ?_
  have hz : ns.length ≤ 63 := hy
  exact dss_retX (dx_tape (n := ns.length) (de_callTy call_list_of (rc_listX (n := ns.length)) Y.list bt_list (da_cons (de_sliceScr0 (de_var 0 rfl) (do_some de_int)) da_nil)) de_int de_int de_int (by omega)) fun v B hp' h => h
/-- a draw -/
abbrev spPick : Sp := spOf (γ := Addr × Int) (fun y => [isV (.ref y.1), isI y.2]) (fun y => tapeC y.1) (fun y => 1 ≤ y.2 ∧ y.2 ≤ 1000) (fun y v B hp' => hp' = tapeC y.1 ∧ (exA fun r : Int => andA (0 ≤ r ∧ r < y.2) (isI r)).p v B)
theorem ok_law_pick (Y : Bi mg) (F : FnD K d__law_pick f fd) : FnOk P w K mg base CX0 1 f fd ["_law_tape_here", "_law_many"] spPick := by
  refine ok_ds F sc__law_pick _ _ _ _ (fun _ => rfl) fun y hy cdv A outer s H E hr => ?_
  obtain ⟨a, many⟩ := y
  obtain ⟨hm1, hm2⟩ := hy
  have hm1 : 1 ≤ many := hm1
  have hm2 : many ≤ 1000 := hm2
  have hmod : ∀ z : Int, 0 ≤ z % many ∧ z % many < many := fun z => ⟨Int.emod_nonneg _ (by omega), Int.emod_lt_of_pos _ (by omega)⟩
  have hdiv : CDiv 0 many := ⟨by omega, by omega⟩
  refine dss_openC (f := fun y : Tp => oL (tpD y)) 0 rfl fun y => ?_
  obtain ⟨L, at_, b, n, hL⟩ := y
  have wk : ∀ (L' : List Int) (hL' : L'.length ≤ 100) (x1 x2 x3 : Int) (o : HO) (B : Hp), (oL [.list (L'.map .int), .int x1, .int x2, .int x3]).p o B → oTape.p o B := fun L' hL' x1 x2 x3 o B h => ⟨⟨L', x1, x2, x3, hL'⟩, h⟩
  refine dss_setIx (d := .int (n + 1)) (jj := 3) (hp1 := [⟨a, oL [.list (L.map .int), .int at_, .int b, .int n]⟩]) 0 rfl (by rfl) (de_op op_add re_I0 (de_ixOwn (d := .int n) 0 rfl tp3 (de_var 0 rfl) de_int) de_int) (de_var 0 rfl) de_int ?_
  show DSs _ _ _ _ [⟨a, oL [.list (L.map .int), .int at_, .int b, .int (n + 1)]⟩] _ _
  generalize n + 1 = n1
  refine dss_ifr (b := decide (b > 0)) (dt_cmp op_gt re_B0 (de_ixOwn (d := .int b) 0 rfl tp2 (de_var 0 rfl) de_int) de_int) (fun _ => ?_) (fun _ => ?_)
  · refine dss_set (i := 2) (A := isI (b % many)) (hp1 := [⟨a, oL [.list (L.map .int), .int at_, .int b, .int n1]⟩]) (de_op op_mod (re_I (by show 0 < many; omega)) (de_ixOwn (d := .int b) 0 rfl tp2 (de_var 0 rfl) de_int) (de_var 1 rfl)) ?_ sc__law_pick.nd
    refine dss_setIx (d := .int (b / many)) (jj := 2) (hp1 := [⟨a, oL [.list (L.map .int), .int at_, .int b, .int n1]⟩]) 0 rfl (by rfl) (de_op op_fdiv (re_I hdiv) (de_ixOwn (d := .int b) 0 rfl tp2 (de_var 0 rfl) de_int) (de_var 1 rfl)) (de_var 0 rfl) de_int ?_
    refine dss_wkC (mo' := oTape) 0 rfl (wk L hL _ _ _) ?_
    exact dss_ret (de_var 2 rfl) fun v B h => ⟨rfl, _, hmod b, h⟩
  · refine dss_set (i := 3) (A := isI at_) (hp1 := [⟨a, oL [.list (L.map .int), .int at_, .int b, .int n1]⟩]) (de_ixOwn (d := .int at_) 0 rfl tp1 (de_var 0 rfl) de_int) ?_ sc__law_pick.nd
    refine dss_setIx (d := .int (at_ + 1)) (jj := 1) (hp1 := [⟨a, oL [.list (L.map .int), .int at_, .int b, .int n1]⟩]) 0 rfl (by rfl) (de_op op_add re_I0 (de_var 3 rfl) de_int) (de_var 0 rfl) de_int ?_
    show DSs _ _ _ _ [⟨a, oL [.list (L.map .int), .int (at_ + 1), .int b, .int n1]⟩] _ _
    refine dss_set (i := 4) (A := exA fun c : Int => isI c) (hp1 := [⟨a, oL [.list (L.map .int), .int (at_ + 1), .int b, .int n1]⟩]) (de_if (t := !L.isEmpty) (dt_eq (dt_cmp (op_neD (hu64 hr)) (re_neD (d := .list (L.map .int)) (e := .list []) (shaped_ints L) rfl) (de_ixOwn (d := .list (L.map .int)) 0 rfl tp0 (de_var 0 rfl) de_int) (de_lst (ds := []) da_nil)) (by rw [eqvL_nil]; simp)) (fun hb => ?_) (fun _ => de_is de_int fun v B h => ⟨43, h⟩)) ?_ sc__law_pick.nd
    · have hlp : 0 < L.length := by
        cases L with
        | nil => cases hb
        | cons _ _ => simp
      have hr1 : 0 ≤ at_ % (L.length : Int) := Int.emod_nonneg _ (by omega)
      have hr2 : at_ % (L.length : Int) < (L.length : Int) := Int.emod_lt_of_pos _ (by omega)
      obtain ⟨j, hj⟩ : ∃ j : Nat, at_ % (L.length : Int) = j := ⟨(at_ % (L.length : Int)).toNat, by omega⟩
      have hjl : j < L.length := by omega
      refine de_is (de_ixL (ds := L.map .int) (i := at_ % (L.length : Int)) (d := .int L[j]) ?_ (de_ixOwn (d := .list (L.map .int)) 0 rfl tp0 (de_var 0 rfl) de_int) (de_op op_mod (re_I (by show (0 : Int) < (L.length : Int); omega)) (de_var 3 rfl) (de_eq (de_callB call_len_seq (rc_lenL (ds := L.map .int)) Y.len bt_len (da_cons (de_ixOwn (d := .list (L.map .int)) 0 rfl tp0 (de_var 0 rfl) de_int) da_nil)) (by rw [List.length_map])))) fun v B h => ⟨_, h⟩
      rw [hj]
      refine atI_nat' ?_
      rw [List.getElem?_map, List.getElem?_eq_getElem hjl]; rfl
    refine dss_open 4 rfl fun c => ?_
    refine dss_ifr (b := decide (c ≥ 10 ^ 18) && decide (at_ < (L.length : Int))) (dt_w (dw_and (dt_cmp op_ge re_B0 (de_var 4 rfl) (de_op op_pow (re_I (i := 10) (j := 18) ⟨by decide, by decide, by decide⟩) de_int de_int)) fun _ => dw_and1 (dt_cmp op_lt re_B0 (de_var 3 rfl) (de_eq (de_callB call_len_seq (rc_lenL (ds := L.map .int)) Y.len bt_len (da_cons (de_ixOwn (d := .list (L.map .int)) 0 rfl tp0 (de_var 0 rfl) de_int) da_nil)) (by rw [List.length_map]))))) (fun _ => ?_) (fun _ => ?_)
    · refine dss_setIx (d := .int (c / many)) (jj := 2) (hp1 := [⟨a, oL [.list (L.map .int), .int (at_ + 1), .int b, .int n1]⟩]) 0 rfl (by rfl) (de_op op_fdiv (re_I hdiv) (de_var 4 rfl) (de_var 1 rfl)) (de_var 0 rfl) de_int ?_
      refine dss_wkC (mo' := oTape) 0 rfl (wk L hL _ _ _) ?_
      exact dss_ret (A := isI (c % many)) (hp1 := tapeC a) (de_op op_mod (re_I (by show 0 < many; omega)) (de_var 4 rfl) (de_var 1 rfl)) fun v B h => ⟨rfl, _, hmod c, h⟩
    · have hpos : ∀ z k : Int, 0 < k → 0 ≤ z % k ∧ z % k < k := fun z k hk => ⟨Int.emod_nonneg _ (by omega), Int.emod_lt_of_pos _ hk⟩
      refine dss_set (i := 5) (A := isI ((c % 2147483647 + 58321 * n1 + 31) % 2147483629)) (hp1 := [⟨a, oL [.list (L.map .int), .int (at_ + 1), .int b, .int n1]⟩]) (de_op op_mod (re_I (by show (0 : Int) < 2147483629; decide)) (de_op op_add re_I0 (de_op op_add re_I0 (de_op op_mod (re_I (by show (0 : Int) < 2147483647; decide)) (de_var 4 rfl) de_int) (de_op op_mul (re_I (.inl ⟨by decide, by decide⟩)) de_int (de_ixOwn (d := .int n1) 0 rfl tp3 (de_var 0 rfl) de_int))) de_int) de_int) ?_ sc__law_pick.nd
      have h1 := hpos (c % 2147483647 + 58321 * n1 + 31) 2147483629 (by decide)
      generalize (c % 2147483647 + 58321 * n1 + 31) % 2147483629 = m1 at h1
      have hm : CMul m1 m1 := .inl ⟨by omega, by omega⟩
      refine dss_set (i := 5) (A := isI ((m1 * m1 + 25799 * n1 + 11) % 2147483587)) (hp1 := [⟨a, oL [.list (L.map .int), .int (at_ + 1), .int b, .int n1]⟩]) (de_op op_mod (re_I (by show (0 : Int) < 2147483587; decide)) (de_op op_add re_I0 (de_op op_add re_I0 (de_op op_mul (re_I hm) (de_var 5 rfl) (de_var 5 rfl)) (de_op op_mul (re_I (.inl ⟨by decide, by decide⟩)) de_int (de_ixOwn (d := .int n1) 0 rfl tp3 (de_var 0 rfl) de_int))) de_int) de_int) ?_ sc__law_pick.nd
      have h2 := hpos (m1 * m1 + 25799 * n1 + 11) 2147483587 (by decide)
      generalize (m1 * m1 + 25799 * n1 + 11) % 2147483587 = m2 at h2
      have hm2 : CMul m2 m2 := .inl ⟨by omega, by omega⟩
      refine dss_set (i := 5) (A := isI ((m2 * m2 + 17863 * m2 + 1) % 2147483579)) (hp1 := [⟨a, oL [.list (L.map .int), .int (at_ + 1), .int b, .int n1]⟩]) (de_op op_mod (re_I (by show (0 : Int) < 2147483579; decide)) (de_op op_add re_I0 (de_op op_add re_I0 (de_op op_mul (re_I hm2) (de_var 5 rfl) (de_var 5 rfl)) (de_op op_mul (re_I (.inl ⟨by decide, by decide⟩)) de_int (de_var 5 rfl))) de_int) de_int) ?_ sc__law_pick.nd
      refine dss_wkC (mo' := oTape) 0 rfl (wk L hL _ _ _) ?_
      exact dss_ret (A := isI (((m2 * m2 + 17863 * m2 + 1) % 2147483579) / 256 % many)) (hp1 := tapeC a) (de_op op_mod (re_I (by show 0 < many; omega)) (de_op op_fdiv (re_I ⟨by decide, by decide⟩) (de_var 5 rfl) de_int) (de_var 1 rfl)) fun v B h => ⟨rfl, _, hmod _, h⟩
end
end PK
end
section
set_option Elab.async false
set_option linter.all false
set_option maxRecDepth 100000
set_option maxHeartbeats 8000000
namespace PK
open PySem PySem.Spec PyProof.Rows L2
open PM (Want manyP manyF ls letsL)
/-! ### results of which only this is told: there is .. -/
abbrev exD {α : Type} (φ : α → Prop) (f : α → PyData) : MA := exA fun x => andA (φ x) (isD (f x))
abbrev rngA (lo hi : Int) : MA := exA fun r : Int => andA (lo ≤ r ∧ r < hi) (isI r)
section
variable {r : R2} {A C R : MA} {α : Type} {f : α → MA} {φ : Prop}
theorem re_ex2 (h : ∀ x, RE r A (f x) R) : RE r A (exA f) R := fun Z B H hp x y Q S hx ⟨z, hy⟩ k => h z Z B H hp x y Q S hx hy k
theorem re_and2 (h : φ → RE r A C R) : RE r A (andA φ C) R := fun Z B H hp x y Q S hx ⟨z, hy⟩ k => h z Z B H hp x y Q S hx hy k
theorem re_ex1 (h : ∀ x, RE r (f x) A R) : RE r (exA f) A R := fun Z B H hp x y Q S ⟨z, hx⟩ hy k => h z Z B H hp x y Q S hx hy k
theorem re_and1 (h : φ → RE r C A R) : RE r (andA φ C) A R := fun Z B H hp x y Q S ⟨z, hx⟩ hy k => h z Z B H hp x y Q S hx hy k
theorem re_to {R' : MA} (h : RE r A C R) (i : ∀ v B, R.p v B → R'.p v B) : RE r A C R' := fun Z B H hp x y Q S hx hy k => h Z B H hp x y Q S hx hy fun v B' H' m S' q => k v B' H' m S' (i v B' q)
end
section
variable {r : List V → Hp → VK → Prop} {As : List MA} {R : MA}
theorem rc_to {R' : MA} (h : RC r As R) (i : ∀ v B, R.p v B → R'.p v B) : RC r As R' := fun Z B H hp vs Q S ha k => h Z B H hp vs Q S ha fun v B' H' m S' q => k v B' H' m S' (i v B' q)
theorem rc_ex1 {α : Type} {f : α → MA} (h : ∀ x, RC r [f x] R) : RC r [exA f] R := fun Z B H hp vs Q S ha k => by
  obtain ⟨v, rfl, x, hx⟩ := all2_one ha
  exact h x Z B H hp [v] Q S (.cons hx .nil) k
theorem rc_and1 {φ : Prop} {A : MA} (h : φ → RC r [A] R) : RC r [andA φ A] R := fun Z B H hp vs Q S ha k => by
  obtain ⟨v, rfl, hφ, hx⟩ := all2_one ha
  exact h hφ Z B H hp [v] Q S (.cons hx .nil) k
theorem rc_exb {α : Type} {A : MA} {f : α → MA} (h : ∀ x, RC r [A, f x] R) : RC r [A, exA f] R := fun Z B H hp vs Q S ha k => by
  obtain ⟨v, w, rfl, h1, x, hx⟩ := all2_two ha
  exact h x Z B H hp [v, w] Q S (.cons h1 (.cons hx .nil)) k
theorem rc_andb {φ : Prop} {A C : MA} (h : φ → RC r [A, C] R) : RC r [A, andA φ C] R := fun Z B H hp vs Q S ha k => by
  obtain ⟨v, w, rfl, h1, hφ, hx⟩ := all2_two ha
  exact h hφ Z B H hp [v, w] Q S (.cons h1 (.cons hx .nil)) k
end
/-- a test of which nothing is told -/
def tDTX (sl : SL) (hp hp' : List Cell) : TT := fun σ H Q => ∃ Z B, Sat Z B H hp ∧ SatS B σ sl ∧ ∀ b B' H', Same B B' → Sat Z B' H' hp' → Q b H'
abbrev DTX (X : Cx) (e : Expr) (sl : SL) (hp hp' : List Cell) : Prop := PT X e (tDTX sl hp hp')
section
variable {X : Cx} {sl : SL} {hp hp1 hp2 : List Cell} {a b c e : Expr} {pos : Pos} {A C : MA} {t : Bool} {own0 : List Addr} {sts sts2 rest : List Stmt} {Nx M : NxP} {Rt : RtP}
theorem dtx_cmp {op : CmpOp} {r : R2} (ho : OpR X (compareOp op) r) (hr : RE r A C (exA fun t : Bool => isB t)) (ha : DE X a sl hp A hp1) (hb : DE X b sl hp1 C hp2) (hm : behindInMarks op b = false := by first | exact nomark _ | rfl) : DTX X (.Compare a [op] [b] pos) sl hp hp2 :=
  pt_imp (pt_cmpR ho ha hb hm) fun σ H Q ⟨Z, B, S, T, k⟩ => tD_op hr ⟨Z, B, S, T, fun v B' H' m S' q => by
    obtain ⟨t, q⟩ := q
    cases q
    exact ⟨t, rfl, k t B' H' m S'⟩⟩
theorem dtx_and (ha : DT X a sl hp t hp) (hb : DTX X b sl hp hp) : DTX X (.BoolOp .And [a, b] pos) sl hp hp := by
  refine PW.pt ⟨fun wh pins s σ H Q I ⟨Z, B, S, T, k⟩ => ?_⟩
  refine isTrue_and (thn (ha.run pins s σ H (fun c H1 => c = t ∧ ∃ B1, Same B B1 ∧ Sat Z B1 H1 hp) I ⟨Z, B, S, T, fun B' H' m S' => ⟨rfl, B', m, S'⟩⟩) fun c s1 ⟨H1, I1, q0, B1, m1, S1⟩ => ?_)
  subst q0
  cases c with
  | true => exact (pw_and1 hb).run wh pins s1 σ H1 Q I1 ⟨Z, B1, S1, T.mono m1, fun b B2 H2 m2 S2 => k b B2 H2 (m1.trans m2) S2⟩
  | false => exact ⟨H1, I1, k false B1 H1 m1 S1⟩
theorem dss_ifX (hc : DTX X c sl hp hp1) (h1 : DSs X own0 sts sl hp1 M Rt) (h2 : DSs X own0 sts2 sl hp1 M Rt) (hr : ∀ s h, M s h → DSs X own0 rest s h Nx Rt) : DSs X own0 (.If c sts sts2 pos :: rest) sl hp Nx Rt := by
  refine pss_imp (pss_cons (ps_if (t := tDS own0 sl hp1 M Rt) (u := tDS own0 sl hp1 M Rt) hc h1 h2) (pss_ex fun s => pss_ex fun h => pss_hyp (hr s h))) ?_
  intro D σ H ⟨Z, B, z, S, T, k, r⟩
  refine ⟨Z, B, S, T, fun b B1 H1 m1 S1 => ?_⟩
  have go : tDS own0 sl hp1 M Rt { D with nx := fun σ' H' => ∃ s h, M s h ∧ tDS own0 s h Nx Rt D σ' H' } σ H1 := ⟨Z, B1, z, S1, T.mono m1, fun σ' B' H' s h m hM S' T' => ⟨s, h, hM, Z, B', z, S', T',
    fun σ2 B2 H2 s2 h2 m2 => k σ2 B2 H2 s2 h2 (m1.trans (m.trans m2)), fun v B2 H2 h2 m2 => r v B2 H2 h2 (m1.trans (m.trans m2))⟩, fun v B' H' h m => r v B' H' h (m1.trans m)⟩
  cases b with
  | true => exact iteT go
  | false => exact iteF go
theorem dss_whenX (hc : DTX X c sl hp hp1) (h1 : DSs X own0 sts sl hp1 M Rt) (h2 : M sl hp1) (hr : ∀ s h, M s h → DSs X own0 rest s h Nx Rt) : DSs X own0 (.If c sts [] pos :: rest) sl hp Nx Rt :=
  dss_ifX hc h1 (dss_nil (Wk.refl sl) h2) hr
/-- an item of a list, at a place of which only the range is told -/
theorem de_ixX {ds : List PyData} {i : Expr} {n : Nat} (hn : ds.length = n) (ha : DE X a sl hp (isD (.list ds)) hp1) (hb : DE X i sl hp1 (rngA 0 n) hp2) (hs : PlainIx i := by exact fun _ _ => rfl) : DE X (.Subscript a i pos) sl hp (exD (· ∈ ds) fun d => d) hp2 :=
  pe_imp (pe_ix ix_list ha hb hs) fun σ H Q ⟨Z, B, S, T, k⟩ => ⟨Z, B, S, T, fun v B1 H1 m1 S1 q1 => ⟨Z, B1, S1, T.mono m1, fun w B2 H2 m2 S2 ⟨r, hr, q2⟩ => by
    cases q2
    cases q1 with
    | lst h1 r1 =>
      rename_i p xs
      have hl := r1.length
      obtain ⟨j, rfl⟩ : ∃ j : Nat, r = j := ⟨r.toNat, by omega⟩
      have hj : j < ds.length := by omega
      obtain ⟨u, hu, hd⟩ := r1.get (List.getElem?_eq_getElem hj)
      exact ⟨p, xs, (j : Int), u, rfl, rfl, SqL.of (S2.bh _ _ (m2 _ _ h1)), atI_nat' hu, k u B2 H2 (m1.trans m2) S2 ⟨_, List.getElem_mem hj, hd.mono m2⟩⟩⟩⟩
/-- xs.append(e), xs owned -/
theorem dss_appendX {α : Type} {φ : α → Prop} {f : α → PyData} {ad : Addr} {ds : List PyData} (j : Nat) {o : Expr} {apos cpos : Pos} (ho : DE X o sl hp (isV (.ref ad)) hp) (he : DE X e sl hp (exD φ f) hp1) (hj : hp1[j]? = some ⟨ad, oL ds⟩) (hz : ds.length < 100000) (hr : ∀ x, φ x → DSs X own0 rest sl (hp1.set j ⟨ad, oL (ds ++ [f x])⟩) Nx Rt)
    (hj0 : hp[j]? = some ⟨ad, oL ds⟩) (hs : swapsWith (.Call (.Attribute o "append" apos) [e] [] cpos) none pos.line X.env = pure false := by rfl)
    (hbase : attributeBase o "append" X.env (eval o X.env) = eval o X.env := by rfl)
    (hfew : ((backTo cpos (starEach [e] X.env)).all (fun x => !x.1) && (backToKw cpos (keywordEach [] X.env)).all (fun x => x.1.isSome)
      && decide ([e].length + ([] : List Keyword).length + (if ([] : List Keyword).isEmpty then 0 else 1) < 30)) = true := by rfl)
    (hline : (apos.endLine == cpos.line) = true := by rfl) (hst : starEach [e] X.env = (false, eval e X.env) :: starEach [] X.env := by rfl) (hplain : (backTo cpos (starEach [] X.env)).any (·.1) = false := by rfl) :
    DSs X own0 (.Expr (.Call (.Attribute o "append" apos) [e] [] cpos) pos :: rest) sl hp Nx Rt := by
  refine pss_imp (pss_cons (ps_expr (pe_bm PySem.F.plainAttrs_list PySem.F.slot_list_append PySem.F.type_list_append mt_append ho (da_cons he da_nil hst) hbase hfew hline hst hplain) hs) (pss_ex fun x => pss_hyp (hr x))) fun D σ H ⟨Z, B, z, S, T, k, r⟩ => ⟨Z, B, S, T, fun v B1 H1 m1 S1 q1 => ?_⟩
  have q1' : v = .ref ad := q1
  subst q1'
  obtain ⟨u, hu, us, rfl, ur⟩ := S1.at hj0
  refine ⟨Or.inl ⟨rfl, us, SqL.of hu⟩, Z, B1, S1, T.mono m1, fun ws B2 H2 m2 S2 q2 => ?_⟩
  obtain ⟨w, rfl, x, hx, q2⟩ := all2_one q2
  obtain ⟨u2, hu2, us2, rfl, ur2⟩ := S2.at hj
  refine ⟨ad, us2, w, rfl, rfl, hu2, ?_, ?_⟩
  · rw [ur2.length]; exact Nat.lt_of_lt_of_le hz (by decide)
  · have S3 := S2.write hj (o := .lst (us2 ++ [w])) (mo := oL (ds ++ [f x])) ⟨_, rfl, ur2.append (.cons q2 .nil)⟩
    exact ⟨x, hx, Z, B2, z, S3, T.mono (m1.trans m2), fun σ' B' H' s h m => k σ' B' H' s h (m1.trans (m2.trans m)), fun v B' H' h m => r v B' H' h (m1.trans (m2.trans m))⟩
end
/-- all of one kind -/
theorem all2_rep {B : Hp} {α : Type} {φ : α → Prop} {f : α → PyData} : ∀ {vs : List V} {n : Nat}, All2 B vs (List.replicate n (exD φ f)) → ∃ xs : List α, xs.length = n ∧ (∀ x ∈ xs, φ x) ∧ RpL B vs (xs.map f)
  | [], 0, _ => ⟨[], rfl, (fun x h => by cases h), .nil⟩
  | _ :: _, 0, h => by cases h
  | [], n + 1, h => by cases h
  | v :: vs, n + 1, h => by
    rw [List.replicate_succ] at h
    cases h with
    | cons h1 h2 =>
      obtain ⟨x, hx, hv⟩ := h1
      obtain ⟨xs, e1, e2, e3⟩ := all2_rep h2
      refine ⟨x :: xs, by rw [List.length_cons, e1], fun y hy => ?_, .cons hv e3⟩
      rcases List.mem_cons.mp hy with rfl | hy
      · exact hx
      · exact e2 y hy
theorem map_const {α β : Type} (c : β) : ∀ l : List α, l.map (fun _ => c) = List.replicate l.length c
  | [] => rfl
  | a :: l => by rw [List.map_cons, map_const c l]; rfl
/-- [elt for k in range(n)], all of one kind -/
theorem lst_rep {α : Type} {φ : α → Prop} {f : α → PyData} {n : Nat} (v : V) (B : Hp) (h : (listA (List.replicate n (exD φ f))).p v B) : (exD (fun xs : List α => xs.length = n ∧ ∀ x ∈ xs, φ x) fun xs => .list (xs.map f)).p v B := by
  obtain ⟨a, vs, rfl, h1, h2⟩ := h
  obtain ⟨xs, e1, e2, e3⟩ := all2_rep h2
  exact ⟨xs, ⟨e1, e2⟩, .lst h1 e3⟩
end PK
end
section
set_option Elab.async false
set_option linter.all false
set_option maxRecDepth 100000
set_option maxHeartbeats 8000000
namespace PK
open PySem PySem.Spec PyProof.Rows L2
open PM (Want manyP manyF ls letsL)
section
variable {X : Cx} {sl : SL} {hp hp1 : List Cell} {pos py : Pos} {elt tg e : Expr} {scope : Scope}
theorem pi_rngX {p rp : Pos} {N : Nat} (hm : X.mg "range" = none) (h : DA X [e] sl hp [rngA 0 N] hp1) (hN : N ≤ 1000000) (hg : Gl X "range" := by rfl) (hs : starEach [e] X.env = [(false, eval e X.env)] := by rfl) :
    ∃ wi, PI X tg (.Call (.Name "range" p) [e] [] rp) wi ∧ ∀ σ H R, (∃ Z B, Sat Z B H hp ∧ SatS B σ sl ∧ ∀ (n : Nat) B' H' J, n < N → Same B B' → Sat Z B' H' hp1 → WalkD J B' [] (List.range n) (fun i => isI ((i : Nat) : Int)) → R J H') → wi σ H R := by
  refine ⟨_, pi_range1 hg hm h hs, fun σ H R ⟨Z, B, S, T, k⟩ => ⟨Z, B, S, T, fun vs B1 H1 m1 S1 q1 => ?_⟩⟩
  obtain ⟨v, rfl, r, hr, hv⟩ := all2_one q1
  cases hv
  obtain ⟨n, rfl⟩ : ∃ n : Nat, r = n := ⟨r.toNat, by omega⟩
  refine ⟨_, rfl, by omega, by omega, ?_⟩
  rw [Int.toNat_natCast]
  refine k n B1 H1 _ (by omega) m1 S1 ⟨fun i H hi m _ => ?_, fun H m _ => ?_, fun i x H v H' hx m y => ?_⟩
  · rw [List.length_range] at hi; exact hi
  · rw [List.length_range]; exact Nat.le_refl n
  · obtain ⟨rfl, rfl⟩ := y
    obtain ⟨hl, he⟩ := List.getElem?_eq_some_iff.mp hx
    rw [List.getElem_range] at he
    subst he
    refine .inl ⟨rfl, ?_⟩
    rw [Int.zero_add]
    exact .int _
theorem lc_mainX {N : Nat} {wi : TI} (hw : ∀ σ H R, (∃ Z B, Sat Z B H hp ∧ SatS B σ sl ∧ ∀ (n : Nat) B' H' J, n < N → Same B B' → Sat Z B' H' hp1 → WalkD J B' [] (List.range n) (fun i => isI ((i : Nat) : Int)) → R J H') → wi σ H R) {vs js : List Nat} {As : Nat → List MA} {C : MA} (hjs : ∀ j ∈ js, j ∈ vs) (hz : N ≤ sizeLine) :
    ∀ σ H Q, tDE sl hp (exA fun n : Nat => andA (n < N) (listA (List.replicate n C))) hp1 σ H Q →
      tLc wi (fun v σ H Q => ∃ x : Nat, tDG (isI ((x : Nat) : Int)) js (As x) v σ H Q) (fun σ H Q => Q true H)
        (fun σ H Q => ∃ x, ∃ fr, tDE (setSL (wipeS sl vs) js (As x)) (hp1 ++ fr) C (hp1 ++ fr) σ H Q) vs σ H Q := by
  intro σ H Q ⟨Z, B, S, T, k⟩
  refine hw σ H _ ⟨Z, B, S, T, fun n B1 H1 J hn m1 S1 W => fun D hD => ?_⟩
  have hln : (List.range n).length = n := List.length_range
  refine ⟨fun i m Hc => m = n - i ∧ i ≤ n ∧ ∃ Bc acc, Same B1 Bc ∧ Sat Z Bc Hc (hp1 ++ [⟨D, oRaw (.lst acc)⟩]) ∧ All2 Bc acc (List.replicate i C), ⟨n, by simp, Nat.zero_le _, ?_⟩, ?_⟩
  · obtain ⟨S2, _⟩ := S1.allocOwn hD (o := .lst []) (mo := oRaw (.lst [])) rfl
    exact ⟨B1, [], Same.refl B1, S2, .nil⟩
  · rintro i m Hc ⟨rfl, hi, Bc, acc, mc, Sc, ac⟩
    by_cases hlt : i < n
    · refine .inr ⟨W.goes i Hc (by rw [hln]; exact hlt) (mc.trans Sc.bh) (fun q hq => by cases hq), fun H' => i + 1 ≤ n ∧ ∃ Bc acc, Same B1 Bc ∧ Sat Z Bc H' (hp1 ++ [⟨D, oRaw (.lst acc)⟩]) ∧ All2 Bc acc (List.replicate (i + 1) C),
        fun H' q => ⟨n - (i + 1), by omega, rfl, q.1, q.2⟩, fun v H' y => ?_⟩
      have hx : (List.range n)[i]? = some i := List.getElem?_range hlt
      obtain ⟨Bd, Sd, md, qd⟩ := W.step Sc mc hx y
      refine ⟨i, Bd, Sd.bh, qd, fun us hu => ⟨(wipe_setAll hjs).trans (wipe_sub fun _ h => h), ?_⟩⟩
      refine iteT ⟨i, [⟨D, oRaw (.lst acc)⟩], Z, Bd, Sd, (SatS.wipe (T.mono (m1.trans (mc.trans md))) vs).setAll hu, fun w Bf Hf mf Sf qf => ?_⟩
      have hcell : (hp1 ++ [(⟨D, oRaw (.lst acc)⟩ : Cell)])[hp1.length]? = some ⟨D, oRaw (.lst acc)⟩ := by simp
      obtain ⟨o, ho, hoo⟩ := Sf.at hcell
      have hoo' : o = .lst acc := hoo
      subst hoo'
      have hlen : acc.length = i := by rw [Paired.length ac, List.length_replicate]
      refine ⟨acc, ho, by omega, by omega, Bf, acc ++ [w], mc.trans (md.trans mf), ?_, ?_⟩
      · have S7 := Sf.write hcell (o := .lst (acc ++ [w])) (mo := oRaw (.lst (acc ++ [w]))) rfl
        have e : (hp1 ++ [(⟨D, oRaw (.lst acc)⟩ : Cell)]).set hp1.length ⟨D, oRaw (.lst (acc ++ [w]))⟩ = hp1 ++ [⟨D, oRaw (.lst (acc ++ [w]))⟩] := by
          rw [List.set_append_right _ _ (Nat.le_refl _)]; simp
        rw [e] at S7
        exact S7
      · rw [List.replicate_succ']
        exact Paired.snoc (All2.mono (md.trans mf) ac) qf
    · have e : i = n := by omega
      subst e
      refine .inl ⟨by have := W.stops Hc (mc.trans Sc.bh) (fun q hq => by cases hq); rw [hln] at this; exact this, ?_⟩
      have hDn : D ∉ Z.own0 := fun z => Sc.on D z (S1.free0 hD)
      obtain ⟨o, h1, h2, h3, h4⟩ := Sat.freeze (hp' := []) (c := ⟨D, oRaw (.lst acc)⟩) Sc hDn
      have h2' : o = .lst acc := h2
      subst h2'
      rw [List.append_nil] at h3
      exact k _ _ _ (m1.trans (mc.trans h4)) h3 ⟨i, hn, D, acc, rfl, upd_same, All2.mono h4 ac⟩
/-- [elt for k in range(e)], of e only the range is told -/
theorem de_lcRX {N : Nat} {p rp : Pos} {α : Type} {φ : α → Prop} {f : α → PyData} (own : List (Str × Nat)) (js : List Nat) (As : Nat → List MA) (hN : X.N.Nodup) (hm : X.mg "range" = none) (h : DA X [e] sl hp [rngA 0 N] hp1) (hz : N ≤ 1000000) (ok : blkC X.N X.env.scope scope own = true)
    (hg : ∀ x : Nat, ∀ s H C cl fp, PG (X.blk s H scope (compEnvC scope cl C X.env) fp) tg (tDG (isI ((x : Nat) : Int)) js (As x)))
    (he : ∀ x : Nat, ∀ s H C cl fp, DE (X.blk s H scope (compEnvC scope cl C X.env) fp) elt (setSL (wipeS sl (own.map (·.2))) js (As x)) hp1 (exD φ f) hp1)
    (hjs : ∀ j ∈ js, j ∈ own.map (·.2) := by decide) (hc : X.calm = true := by rfl) (hs : ∀ x, foldedSetIterable (.Call (.Name "range" p) [e] [] rp) X.env x = pure x := by intro _; rfl) (hgl : Gl X "range" := by rfl) (hst : starEach [e] X.env = [(false, eval e X.env)] := by rfl) :
    DE X (.ListComp elt [⟨tg, .Call (.Name "range" p) [e] [] rp, [], 0⟩] scope pos) sl hp (exD (fun xs : List α => xs.length < N ∧ ∀ x ∈ xs, φ x) fun xs => .list (xs.map f)) hp1 := by
  obtain ⟨wi, h1, h2⟩ := pi_rngX (tg := tg) (p := p) (rp := rp) hm h hz hgl hst
  refine de_is (A := exA fun n : Nat => andA (n < N) (listA (List.replicate n (exD φ f)))) (pe_imp (pe_lc (own := own) (wi := wi) (g := fun v σ H Q => ∃ x : Nat, tDG (isI ((x : Nat) : Int)) js (As x) v σ H Q) (tt := fun σ H Q => Q true H)
    (te := fun σ H Q => ∃ x : Nat, ∃ fr, tDE (setSL (wipeS sl (own.map (·.2))) js (As x)) (hp1 ++ fr) (exD φ f) (hp1 ++ fr) σ H Q) hc hN h1 (blkOk_by ok) ?_ ?_ ?_ hs) (lc_mainX h2 hjs (Nat.le_trans hz (by decide)))) fun v B ⟨n, hn, q⟩ => ?_
  · intro s H C cl fp
    exact pg_ex fun x => hg x s H C cl fp
  · intro s H C cl fp
    exact pts_nil
  · intro s H C cl fp
    exact pe_ex fun x => pe_ex fun fr => pe_imp (he x s H C cl fp) fun _ _ _ => tDE_frame
  · obtain ⟨xs, ⟨e1, e2⟩, h3⟩ := lst_rep v B q
    exact ⟨xs, ⟨by omega, e2⟩, h3⟩
/-- tuple(xs), of xs only a kind is told -/
theorem rc_tupleX {K : PySem.W.Frag} {α : Type} {φ : α → Prop} {g : α → List PyData} : RC (fun xs H Q => ∃ p ys, xs = [.ref p] ∧ ((SqL K H p ys ∧ ∀ l, H l = none → Q (.ref l) (upd H l (.tup ys))) ∨ (SqT K H p ys ∧ Q (.ref p) H))) [exD φ fun x => .list (g x)] (exD φ fun x => .tuple (g x)) :=
  rc_ex1 fun x => rc_and1 fun hx => rc_to rc_tupleL fun v B q => ⟨x, hx, q⟩
end
section
variable {P : Program} {w : World} {K : PySem.W.Frag} {mg : Str → Option Value} {base : Heap} {f : Addr} {fd : FuncData}
abbrev spLForms : Sp := spP (γ := Unit) (fun _ => []) (fun _ => True) (fun _ => isD (.list (formsL.map .str)))
abbrev spLShades : Sp := spP (γ := Unit) (fun _ => []) (fun _ => True) (fun _ => isD (.list (shadesL.map .str)))
theorem ok_law_forms (F : FnD K d__law_forms f fd) : FnOk P w K mg base CX0 1 f fd [] spLForms := by
  refine ok_ds F sc__law_forms _ _ _ _ (fun _ => rfl) fun y hy cdv A outer s H E hr => ?_
  exact dss_ret (A := isD (.list (formsL.map .str))) (hp1 := []) (de_lst (ds := [.str "a", .str "ab", .str "brick"]) (da_cons de_str (da_cons de_str (da_cons de_str da_nil)))) fun v B h => ⟨rfl, h⟩
theorem ok_law_shades (F : FnD K d__law_shades f fd) : FnOk P w K mg base CX0 1 f fd [] spLShades := by
  refine ok_ds F sc__law_shades _ _ _ _ (fun _ => rfl) fun y hy cdv A outer s H E hr => ?_
  exact dss_ret (A := isD (.list (shadesL.map .str))) (hp1 := []) (de_lst (ds := [.str "b", .str "blue", .str "r", .str "reddish"]) (da_cons de_str (da_cons de_str (da_cons de_str (da_cons de_str da_nil))))) fun v B h => ⟨rfl, h⟩
/-- what draws: the tape stays a tape -/
abbrev spDraw {γ : Type} (As : γ → List MA) (pre : γ → Prop) (R : γ → MA) : Sp := spOf (γ := Addr × γ) (fun y => isV (.ref y.1) :: As y.2) (fun y => tapeC y.1) (fun y => pre y.2) (fun y v B hp' => hp' = tapeC y.1 ∧ (R y.2).p v B)
abbrev spCount : Sp := spDraw (γ := Unit) (fun _ => [isI 2]) (fun _ => True) (fun _ => rngA 1 3)
theorem ok_law_count (c : C8.Cal P w K mg base 1 "_law_pick" spPick []) (F : FnD K d__law_count f fd) : FnOk P w K mg base CX0 2 f fd ["_law_tape_here", "_law_great"] spCount := by
  refine ok_ds F sc__law_count _ _ _ _ (fun _ => rfl) fun y hy cdv A outer s H E hr => ?_
  obtain ⟨a, u⟩ := y
  refine dss_ifr (b := true) (dt_eq (dt_cmp op_lt re_B0 (de_var 1 rfl) (de_op op_pow (re_I (i := 10) (j := 6) ⟨by decide, by decide, by decide⟩) de_int de_int)) (by decide)) (fun _ => ?_) (fun h => by cases h)
  exact dss_ret (A := rngA 1 3) (hp1 := tapeC a) (de_op op_add (re_ex2 fun r => re_and2 fun hr => re_to re_I0 fun v B q => ⟨1 + r, by omega, q⟩) de_int (de_call (A := rngA 0 2) (hq := tapeC a) (fr := []) c hr (Nat.le_refl _) (a, 2) (by show (1 : Int) ≤ 2 ∧ (2 : Int) ≤ 1000; decide) (da_cons (de_var 0 rfl) (da_cons (de_var 1 rfl) da_nil)) (fun B vs h => by rw [List.append_nil]; exact h) (fun v B hp' h => by exact ⟨h.2, h.1⟩))) fun v B h => ⟨rfl, h⟩
end
end PK
end
section
set_option Elab.async false
set_option linter.all false
set_option maxRecDepth 100000
set_option maxHeartbeats 8000000
namespace PK
open PySem PySem.Spec PyProof.Rows L2
open PM (Want manyP manyF ls letsL aget aput keys dg)
section
variable {X : Cx} {sl : SL} {fr : List Cell} {e1 e2 : Expr} {p pos : Pos} {k j : Nat} {a : Addr} {m : Int}
theorem de_pick (c : C8.Cal X.prog X.w X.K X.mg X.base k "_law_pick" spPick []) (hr : Room j X.A) (hk : k ≤ j) (hm : 1 ≤ m ∧ m ≤ 1000) (h1 : DE X e1 sl (tapeC a ++ fr) (isV (.ref a)) (tapeC a ++ fr)) (h2 : DE X e2 sl (tapeC a ++ fr) (isI m) (tapeC a ++ fr))
    (hg : Gl X "_law_pick" := by rfl) (he : starEach [e1, e2] X.env = (false, eval e1 X.env) :: starEach [e2] X.env := by rfl) (he2 : starEach [e2] X.env = (false, eval e2 X.env) :: starEach [] X.env := by rfl) (hpl : (backTo pos (starEach [e2] X.env)).any (·.1) = false := by rfl) :
    DE X (.Call (.Name "_law_pick" p) [e1, e2] [] pos) sl (tapeC a ++ fr) (rngA 0 m) (tapeC a ++ fr) :=
  de_call (A := rngA 0 m) (hq := tapeC a) (fr := fr) c hr hk (a, m) hm (da_cons h1 (da_cons h2 da_nil he2) he) (fun B vs h => by rw [List.append_nil]; exact h) (fun v B hp' h => ⟨h.2, h.1⟩) hg (by decide) he hpl
end
theorem mem_strs {v : V} {B : Hp} {l : List Str} (h : (exD (· ∈ l.map PyData.str) fun d => d).p v B) : (exD (· ∈ l) PyData.str).p v B := by
  obtain ⟨d, hd, hv⟩ := h
  obtain ⟨x, hx, rfl⟩ := List.mem_map.mp hd
  exact ⟨x, hx, hv⟩
section
variable {P : Program} {w : World} {K : PySem.W.Frag} {mg : Str → Option Value} {base : Heap} {f : Addr} {fd : FuncData}
abbrev spWant : Sp := spDraw (γ := Unit) (fun _ => [isI 2]) (fun _ => True) (fun _ => exD OkW eWant)
theorem ok_law_want (Y : Bi mg) (c1 : C8.Cal P w K mg base 1 "_law_pick" spPick []) (c2 : C8.Cal P w K mg base 1 "_law_forms" spLForms []) (c3 : C8.Cal P w K mg base 1 "_law_shades" spLShades []) (c4 : C8.Cal P w K mg base 2 "_law_count" spCount []) (F : FnD K d__law_want f fd) : FnOk P w K mg base CX0 3 f fd ["_law_tape_here", "_law_great"] spWant := by
  refine ok_ds F sc__law_want _ _ _ _ (fun _ => rfl) fun y hy cdv A outer s H E hr => ?_
  obtain ⟨a, u⟩ := y
  refine dss_set (i := 2) (A := exD (· ∈ formsL) PyData.str) (hp1 := tapeC a) (de_is (de_ixX (ds := formsL.map .str) (n := 3) (hp1 := tapeC a) rfl (de_callP0 c2 hr (by omega) () trivial rfl) (de_is (de_ixX (ds := [.int 0, .int 0, .int 0, .int 1, .int 2]) (n := 5) (hp1 := tapeC a) rfl (de_lst (ds := [.int 0, .int 0, .int 0, .int 1, .int 2]) (da_cons de_int (da_cons de_int (da_cons de_int (da_cons de_int (da_cons de_int da_nil)))))) (de_pick (fr := []) c1 hr (by omega) (by decide) (de_var 0 rfl) de_int)) ?_)) fun v B h => mem_strs h) ?_ sc__law_want.nd
  · rintro v B ⟨d, hd, hv⟩
    have : ∃ i : Int, d = .int i ∧ 0 ≤ i ∧ i < 3 := by
      simp only [List.mem_cons, List.not_mem_nil, or_false] at hd
      rcases hd with rfl | rfl | rfl | rfl | rfl
      · exact ⟨0, rfl, by decide, by decide⟩
      · exact ⟨0, rfl, by decide, by decide⟩
      · exact ⟨0, rfl, by decide, by decide⟩
      · exact ⟨1, rfl, by decide, by decide⟩
      · exact ⟨2, rfl, by decide, by decide⟩
    obtain ⟨i, rfl, h1, h2⟩ := this
    exact ⟨i, ⟨h1, h2⟩, hv⟩
  refine dss_open 2 rfl fun fm => dss_and 2 rfl fun hfm => ?_
  refine dss_set (i := 3) (A := rngA 0 16) (hp1 := tapeC a) (de_pick (fr := []) c1 hr (by omega) (by decide) (de_var 0 rfl) de_int) ?_ sc__law_want.nd
  refine dss_open 3 rfl fun bits => dss_and 3 rfl fun hbits => ?_
  refine dss_whenX (hp1 := tapeC a) (M := fun s h => ∃ bits : Int, 0 ≤ bits ∧ s = [some (isV (.ref a)), some (isI 2), some (isS fm), some (isI bits), none, none] ∧ h = tapeC a)
    (dtx_and (dt_cmp op_gt re_B0 (de_var 3 rfl) de_int) (dtx_cmp op_gt (re_ex1 fun r => re_and1 fun _ => re_to re_B0 fun v B q => ⟨_, q⟩) (de_pick (fr := []) c1 hr (by omega) (m := 3) (by decide) (de_var 0 rfl) de_int) de_int)) ?_ ⟨bits, hbits.1, rfl, rfl⟩ ?_
  · refine dss_set (i := 3) (A := exA fun i : Int => andA (0 ≤ i) (isI i)) (hp1 := tapeC a) (de_is (de_ixX (ds := [.int 1, .int 2, .int 3, .int 4, .int 6, .int 8]) (n := 6) (hp1 := tapeC a) rfl (de_lst (ds := [.int 1, .int 2, .int 3, .int 4, .int 6, .int 8]) (da_cons de_int (da_cons de_int (da_cons de_int (da_cons de_int (da_cons de_int (da_cons de_int da_nil))))))) (de_pick (fr := []) c1 hr (by omega) (by decide) (de_var 0 rfl) de_int)) ?_) ?_ sc__law_want.nd
    · rintro v B ⟨d, hd, hv⟩
      have : ∃ i : Int, d = .int i ∧ 0 ≤ i := by
        simp only [List.mem_cons, List.not_mem_nil, or_false] at hd
        rcases hd with rfl | rfl | rfl | rfl | rfl | rfl <;> exact ⟨_, rfl, by decide⟩
      obtain ⟨i, rfl, h1⟩ := this
      exact ⟨i, h1, hv⟩
    refine dss_open 3 rfl fun b2 => dss_and 3 rfl fun hb2 => ?_
    exact dss_nil (Wk.refl _) ⟨b2, hb2, rfl, rfl⟩
  rintro s h ⟨b, hb, rfl, rfl⟩
  refine dss_set (i := 4) (hp1 := tapeC a) (de_tup (ds := []) da_nil) ?_ sc__law_want.nd
  refine dss_for (di_list (f := PyData.str) (xs := shadesL) (hp1 := tapeC a) (de_callP0 c3 hr (by omega) () trivial rfl)) [5] (fun x => [isS x]) (fun x _ => dg_name 5 sc__law_want.nd rfl (Or.inl rfl))
    (fun i s h => ∃ (bits : Int) (sm : List Str), (0 ≤ bits ∧ sm.Sublist (shadesL.take i)) ∧ s = [some (isV (.ref a)), some (isI 2), some (isS fm), some (isI bits), some (isD (.tuple (sm.map .str))), none] ∧ h = tapeC a)
    ⟨b, [], ⟨hb, List.nil_sublist _⟩, rfl, rfl⟩ ?_ ?_
  · rintro i x s h hx ⟨bits, sm, ⟨hb, hsm⟩, rfl, rfl⟩
    have hsml : sm.length ≤ 4 := by
      have h1 := hsm.length_le
      have h2 : (shadesL.take i).length ≤ shadesL.length := by rw [List.length_take]; omega
      have h3 : shadesL.length = 4 := rfl
      omega
    have hi01 : bits % 2 = 0 ∨ bits % 2 = 1 := by omega
    refine dss_set (i := 4) (hp1 := tapeC a) (de_op op_catA (re_catT (ds := sm.map .str) (es := if bits % 2 = 1 then [.str x] else []) (Nat.le_trans (m := 5) (by rw [List.length_map]; split <;> simp <;> omega) (by decide))) (de_var 4 rfl) (de_op op_rep01 (re_rep01 (ds := [.str x]) (by simp) hi01) (de_tup (ds := [.str x]) (da_cons (de_var 5 rfl) da_nil)) (de_op op_mod (re_I (by show (0 : Int) < 2; decide)) (de_var 3 rfl) de_int))) ?_ sc__law_want.nd
    refine dss_set (i := 3) (hp1 := tapeC a) (A := isI (bits / 2)) (de_op op_fdiv (re_I ⟨by decide, by decide⟩) (de_var 3 rfl) de_int) ?_ sc__law_want.nd
    have htk : shadesL.take (i + 1) = shadesL.take i ++ [x] := by rw [List.take_add_one, hx]; rfl
    refine dss_nil (wk_mask [true, true, true, true, true, false] _) ⟨bits / 2, sm ++ (if bits % 2 = 1 then [x] else []), ⟨by omega, ?_⟩, ?_, rfl⟩
    · rw [htk]
      refine hsm.append ?_
      split
      · exact List.Sublist.refl _
      · exact List.nil_sublist _
    · rw [List.map_append]
      by_cases q : bits % 2 = 1
      · rw [if_pos q, if_pos q]; rfl
      · rw [if_neg q, if_neg q]; rfl
  · rintro s h ⟨bits, sm, ⟨hb, hsm⟩, rfl, rfl⟩
    rw [List.take_length] at hsm
    refine dss_ret (A := exD OkW eWant) (hp1 := tapeC a) (de_is (de_tupA (As := [isS fm, isD (.tuple (sm.map .str)), rngA 1 3]) (da_cons (de_var 2 rfl) (da_cons (de_var 4 rfl) (da_cons (de_call (A := rngA 1 3) (hq := tapeC a) (fr := []) c4 hr (by omega) (a, ()) trivial (da_cons (de_var 0 rfl) (da_cons (de_var 1 rfl) da_nil)) (fun B vs h => by rw [List.append_nil]; exact h) (fun v B hp' h => by exact ⟨h.2, h.1⟩)) da_nil)))) ?_) fun v B h => ⟨rfl, h⟩
    rintro v B ⟨ad, xs, rfl, h1, h2⟩
    cases h2 with
    | cons g1 h2 => cases h2 with
      | cons g2 h2 => cases h2 with
        | cons g3 h2 =>
          cases h2
          obtain ⟨n, hn, g3⟩ := g3
          exact ⟨⟨fm, sm, n⟩, ⟨hfm, hsm, hn.1, by show n ≤ 2; omega⟩, .tup h1 (.cons g1 (.cons g2 (.cons g3 .nil)))⟩
def OkWay (ws : List Wt) : Prop := ws.length ≤ 2 ∧ ∀ w ∈ ws, OkW w
abbrev spWay : Sp := spDraw (γ := Unit) (fun _ => [isI 2, isI 2]) (fun _ => True) (fun _ => exD OkWay eWants)
theorem ok_law_way (Y : Bi mg) (c1 : C8.Cal P w K mg base 1 "_law_pick" spPick []) (c2 : C8.Cal P w K mg base 3 "_law_want" spWant []) (F : FnD K d__law_way f fd) : FnOk P w K mg base CX0 4 f fd ["_law_tape_here", "_law_most_wants", "_law_great"] spWay := by
  refine ok_ds F sc__law_way _ _ _ _ (fun _ => rfl) fun y hy cdv A outer s H E hr => ?_
  obtain ⟨a, u⟩ := y
  refine dss_ret (A := exD OkWay eWants) (hp1 := tapeC a) (de_is (de_callTy call_tuple_of (rc_tupleX (φ := fun ws : List Wt => ws.length < 3 ∧ ∀ w ∈ ws, OkW w) (g := fun ws => ws.map eWant)) Y.tuple bt_tuple (da_cons (de_lcRX (N := 3) (φ := OkW) (f := eWant) (hp1 := tapeC a) [("_law_k", 3)] [3] (fun x => [isI ((x : Nat) : Int)]) sc__law_way.nd Y.range (da_cons (de_pick (m := 3) (fr := []) c1 hr (by omega) (by decide) (de_var 0 rfl) (de_eq (de_op op_add re_I0 (de_var 1 rfl) de_int) rfl)) da_nil) (by decide) (by show blkC N__law_way (defScope s__law_way) _ _ = true; decide +kernel)
    (fun x s H C cl fp => dg_name 3 sc__law_way.nd rfl (Or.inl rfl)) (fun x s H C cl fp => de_call (A := exD OkW eWant) (hq := tapeC a) (fr := []) c2 hr (by omega) (a, ()) trivial (da_cons (de_var 0 rfl) (da_cons (de_var 2 rfl) da_nil)) (fun B vs h => by rw [List.append_nil]; exact h) (fun v B hp' h => by exact ⟨h.2, h.1⟩))) da_nil)) fun v B h => ?_) fun v B h => ⟨rfl, h⟩
  obtain ⟨ws, ⟨h1, h2⟩, h3⟩ := h
  exact ⟨ws, ⟨by omega, h2⟩, h3⟩
end
end PK
end
section
set_option Elab.async false
set_option linter.all false
set_option maxRecDepth 100000
set_option maxHeartbeats 8000000
namespace PK
open PySem PySem.Spec PyProof.Rows L2
open PM (Want manyP manyF ls letsL aget aput keys dg)
def stkStep (d : DP) (r : Str × Str × Int) : DP := aput d (r.1, r.2.1) (dg d (r.1, r.2.1) + r.2.2)
def stk (rows : Rws) : DP := rows.foldl stkStep []
theorem stk_len : ∀ (rows : Rws) (d : DP), (rows.foldl stkStep d).length ≤ d.length + rows.length
  | [], d => by simp
  | r :: rows, d => by
    have h1 := stk_len rows (stkStep d r)
    have h2 : (stkStep d r).length ≤ d.length + 1 := PM.length_aput _ _ _
    rw [List.foldl_cons, List.length_cons]; omega
theorem stk_many : ∀ (rows : Rws) (d : DP) (q : Str × Str), dg (rows.foldl stkStep d) q = dg d q + manyP rows q.1 q.2
  | [], d, q => by show dg d q = dg d q + ls [] _; rw [PM.ls_nil]; omega
  | r :: rows, d, q => by
    rw [List.foldl_cons, stk_many rows (stkStep d r) q]
    unfold stkStep
    rw [PM.dg_put]
    unfold manyP
    rw [List.filter_cons]
    by_cases e : q = (r.1, r.2.1)
    · subst e
      rw [if_pos rfl, if_pos (by simp), PM.ls_cons]; omega
    · rw [if_neg e, if_neg]
      intro z
      simp only [Bool.and_eq_true, decide_eq_true_eq] at z
      exact e (Prod.ext z.1.symm z.2.symm)
def allParts (fs : List Str) : List (Str × Str) := fs.flatMap fun f => shadesL.map fun s => (f, s)
abbrev rowPart (r : Str × Str × Int) : Str × Str := (r.1, r.2.1)
theorem okr_of {rows : Rws} (h : (rows.map rowPart).Sublist (allParts formsL)) (hn : ∀ r ∈ rows, 1 ≤ r.2.2 ∧ r.2.2 ≤ 2) : OkR rows where
  nd := h.nodup (by decide +kernel)
  f r hr := by
    have h1 : rowPart r ∈ allParts formsL := h.subset (List.mem_map_of_mem (f := rowPart) hr)
    obtain ⟨f, hf, h2⟩ := List.mem_flatMap.mp h1
    obtain ⟨s, hs, e⟩ := List.mem_map.mp h2
    have : r.1 = f := (Prod.mk.inj e).1.symm
    rw [this]; exact hf
  s r hr := by
    have h1 : rowPart r ∈ allParts formsL := h.subset (List.mem_map_of_mem (f := rowPart) hr)
    obtain ⟨f, hf, h2⟩ := List.mem_flatMap.mp h1
    obtain ⟨s, hs, e⟩ := List.mem_map.mp h2
    have : r.2.1 = s := (Prod.mk.inj e).2.symm
    rw [this]; exact hs
  n1 r hr := (hn r hr).1
  n2 r hr := (hn r hr).2
  len := by
    have h1 := h.length_le
    rw [List.length_map] at h1
    exact Nat.le_trans h1 (by decide +kernel)
def OkWays (ways : List (List Wt)) : Prop := 1 ≤ ways.length ∧ ways.length ≤ 3 ∧ ∀ ws ∈ ways, OkWay ws
section
variable {P : Program} {w : World} {K : PySem.W.Frag} {mg : Str → Option Value} {base : Heap} {f : Addr} {fd : FuncData}
abbrev spSheet : Sp := spDraw (γ := Unit) (fun _ => [rngA 0 4, isI 12, isI 2]) (fun _ => True) (fun _ => exD OkS eSheet)
theorem ok_law_sheet (Y : Bi mg) (c1 : C8.Cal P w K mg base 1 "_law_pick" spPick []) (c2 : C8.Cal P w K mg base 4 "_law_way" spWay []) (F : FnD K d__law_sheet f fd) : FnOk P w K mg base CX0 5 f fd ["_law_tape_here", "_law_rows_here", "_law_room", "_law_great"] spSheet := by
  refine ok_ds F sc__law_sheet _ _ _ _ (fun _ => rfl) fun y hy cdv A outer s H E hr => ?_
  obtain ⟨a, u⟩ := y
  refine dss_open 1 rfl fun r => dss_and 1 rfl fun hr4 => ?_
  obtain ⟨n, rfl⟩ : ∃ n : Nat, r = n := ⟨r.toNat, by omega⟩
  refine dss_newL (i := 4) (fun af haf => ?_) sc__law_sheet.nd
  refine dss_for (di_range1 (n := n) Y.range (da_cons (de_var 1 rfl) da_nil) (by omega)) [5] (fun j => [isI ((j : Nat) : Int)]) (fun j _ => dg_name 5 sc__law_sheet.nd rfl (Or.inl rfl))
    (fun i s h => ∃ (sheet : Sh) (room : Int), (sheet.length = i ∧ 1 ≤ room ∧ ∀ ways ∈ sheet, OkWays ways) ∧ s = [some (isV (.ref a)), some (isI (n : Int)), some (isI room), some (isI 2), some (isV (.ref af)), none, none, none] ∧ h = tapeC a ++ [⟨af, oL (sheet.map eWays)⟩])
    ⟨[], 12, ⟨rfl, by decide, fun w h => by cases h⟩, rfl, rfl⟩ ?_ ?_
  · rintro i i' s h hi ⟨sheet, room, ⟨hsl, hroom, hsh⟩, rfl, rfl⟩
    obtain ⟨hil, hie⟩ := List.getElem?_eq_some_iff.mp hi
    rw [List.length_range] at hil
    refine dss_set (i := 6) (A := exA fun w : Int => andA (1 ≤ w ∧ w ≤ 3 ∧ w ≤ room) (isI w)) (hp1 := tapeC a ++ [⟨af, oL (sheet.map eWays)⟩]) (de_callB (call_min2 rfl) (rc_exb (A := isI room) (f := fun r : Int => andA (1 ≤ r ∧ r ≤ 3) (isI r)) fun r => rc_andb fun hr3 => rc_to (rc_II (f := fun i j => if j < i then j else i)) fun v B q => ⟨_, ⟨by split <;> omega, by split <;> omega, by split <;> omega⟩, q⟩) Y.min bt_min (da_cons (de_var 2 rfl) (da_cons (de_op op_add (re_ex2 fun r => re_and2 fun hr3 => re_to re_I0 fun v B q => ⟨1 + r, by omega, q⟩) de_int (de_pick (m := 3) (fr := [⟨af, oL (sheet.map eWays)⟩]) c1 hr (by omega) (by decide) (de_var 0 rfl) de_int)) da_nil))) ?_ sc__law_sheet.nd
    refine dss_open 6 rfl fun wy => dss_and 6 rfl fun hwy => ?_
    refine dss_set (i := 2) (A := isI (room / wy)) (hp1 := tapeC a ++ [⟨af, oL (sheet.map eWays)⟩]) (de_op op_fdiv (re_I ⟨by omega, by omega⟩) (de_var 2 rfl) (de_var 6 rfl)) ?_ sc__law_sheet.nd
    have hroom2 : 1 ≤ room / wy := Int.le_ediv_of_mul_le (by omega) (by omega)
    obtain ⟨m, rfl⟩ : ∃ m : Nat, wy = m := ⟨wy.toNat, by omega⟩
    refine dss_appendX (φ := OkWays) (f := eWays) (hp1 := tapeC a ++ [⟨af, oL (sheet.map eWays)⟩]) 1 (de_var 4 rfl) (de_is (de_callTy call_tuple_of (rc_tupleX (φ := fun ws : List (List Wt) => ws.length = m ∧ ∀ w ∈ ws, OkWay w) (g := fun ws => ws.map eWants)) Y.tuple bt_tuple (da_cons (de_is (de_lc (xs := List.range m) [("_law_way_here", 7)] [7] (fun j => [isI ((j : Nat) : Int)]) (fun _ => true) (fun _ => exD OkWay eWants) sc__law_sheet.nd
      (di_range1 (n := m) (hp1 := tapeC a ++ [⟨af, oL (sheet.map eWays)⟩]) Y.range (da_cons (de_var 6 rfl) da_nil) (by omega)) (by show blkC N__law_sheet (defScope s__law_sheet) _ _ = true; decide +kernel) (fun j _ s H C cl fp => dg_name 7 sc__law_sheet.nd rfl (Or.inl rfl)) (fun j _ s H C cl fp => dts_nil)
      (fun j _ _ s H C cl fp => by exact de_call (A := exD OkWay eWants) (hq := tapeC a) (fr := [⟨af, oL (sheet.map eWays)⟩]) c2 hr (by omega) (a, ()) trivial (da_cons (de_var 0 rfl) (da_cons de_int (da_cons (de_var 3 rfl) da_nil))) (fun B vs h => by rw [List.append_nil]; exact h) (fun v B hp' h => by exact ⟨h.2, h.1⟩)) (Nat.le_trans (m := 3) (by rw [List.length_range]; omega) (by decide))) ?_) da_nil)) ?_) rfl (by rw [List.length_map, hsl]; omega) (fun ways hways => ?_) rfl
    · intro v B h
      rw [List.filter_eq_self.mpr fun _ _ => rfl, map_const, List.length_range] at h
      exact lst_rep v B h
    · rintro v B ⟨ws, ⟨h1, h2⟩, h3⟩
      exact ⟨ws, ⟨by omega, by omega, h2⟩, h3⟩
    · refine dss_nil (wk_mask [true, true, true, true, true, false, false, false] _) ⟨sheet ++ [ways], room / (m : Int), ⟨by rw [List.length_append, hsl]; rfl, hroom2, fun x hx => ?_⟩, rfl, ?_⟩
      · rcases List.mem_append.mp hx with hx | hx
        · exact hsh x hx
        · rw [List.mem_singleton.mp hx]; exact hways
      · rw [List.map_append]; rfl
  · rintro s h ⟨sheet, room, ⟨hsl, hroom, hsh⟩, rfl, rfl⟩
    rw [List.length_range] at hsl
    refine dss_freeze (hp := tapeC a) (hp' := []) 4 rfl haf ?_
    have oks : OkS sheet := ⟨by omega, fun w hw => (hsh w hw).1, fun w hw => (hsh w hw).2.1, fun w hw => (hsh w hw).2.2⟩
    exact dss_ret (A := isD (eSheet sheet)) (hp1 := tapeC a) (de_callTy call_tuple_of (rc_tupleL (ds := sheet.map eWays)) Y.tuple bt_tuple (da_cons (de_var 4 rfl) da_nil)) fun v B h => ⟨rfl, sheet, oks, h⟩
abbrev spLRows : Sp := spDraw (γ := Unit) (fun _ => [isI 2]) (fun _ => True) (fun _ => exD OkR eRows)
theorem ok_law_rows (Y : Bi mg) (c1 : C8.Cal P w K mg base 1 "_law_pick" spPick []) (c2 : C8.Cal P w K mg base 1 "_law_forms" spLForms []) (c3 : C8.Cal P w K mg base 1 "_law_shades" spLShades []) (c4 : C8.Cal P w K mg base 2 "_law_count" spCount []) (F : FnD K d__law_rows f fd) : FnOk P w K mg base CX0 3 f fd ["_law_tape_here", "_law_great"] spLRows := by
  refine ok_ds F sc__law_rows _ _ _ _ (fun _ => rfl) fun y hy cdv A outer s H E hr => ?_
  obtain ⟨a, u⟩ := y
  refine dss_newL (i := 2) (fun af haf => ?_) sc__law_rows.nd
  refine dss_for (di_list (f := PyData.str) (xs := formsL) (hp1 := tapeC a ++ [⟨af, oL []⟩]) (de_callP0 c2 hr (by omega) () trivial rfl)) [3] (fun x => [isS x]) (fun x _ => dg_name 3 sc__law_rows.nd rfl (Or.inl rfl))
    (fun i s h => ∃ rows : Rws, ((rows.map rowPart).Sublist (allParts (formsL.take i)) ∧ ∀ r ∈ rows, 1 ≤ r.2.2 ∧ r.2.2 ≤ 2) ∧ s = [some (isV (.ref a)), some (isI 2), some (isV (.ref af)), none, none] ∧ h = tapeC a ++ [⟨af, oL (rows.map eRow)⟩])
    ⟨[], ⟨List.nil_sublist _, fun r h => by cases h⟩, rfl, rfl⟩ ?_ ?_
  · rintro i fm s h hfm ⟨rows, ⟨hsub, hns⟩, rfl, rfl⟩
    refine dss_for (di_list (f := PyData.str) (xs := shadesL) (hp1 := tapeC a ++ [⟨af, oL (rows.map eRow)⟩]) (de_callP0 c3 hr (by omega) () trivial rfl)) [4] (fun x => [isS x]) (fun x _ => dg_name 4 sc__law_rows.nd rfl (Or.inl rfl))
      (fun j s h => ∃ rows : Rws, ((rows.map rowPart).Sublist (allParts (formsL.take i) ++ (shadesL.take j).map fun s => (fm, s)) ∧ ∀ r ∈ rows, 1 ≤ r.2.2 ∧ r.2.2 ≤ 2) ∧ s = [some (isV (.ref a)), some (isI 2), some (isV (.ref af)), some (isS fm), none] ∧ h = tapeC a ++ [⟨af, oL (rows.map eRow)⟩])
      ⟨rows, ⟨by rw [List.take_zero, List.map_nil, List.append_nil]; exact hsub, hns⟩, rfl, rfl⟩ ?_ ?_
    · rintro j sh s h hsh ⟨rows, ⟨hsub, hns⟩, rfl, rfl⟩
      have htk : shadesL.take (j + 1) = shadesL.take j ++ [sh] := by rw [List.take_add_one, hsh]; rfl
      have hlen : rows.length ≤ 12 := by
        have h1 := hsub.length_le
        rw [List.length_map, List.length_append, List.length_map] at h1
        have h2 : (shadesL.take j).length ≤ 4 := by rw [List.length_take]; exact Nat.min_le_right _ _
        have hi := (List.getElem?_eq_some_iff.mp hfm).1
        have hi3 : i < 3 := hi
        have h3 : (allParts (formsL.take i)).length ≤ 8 := by
          have : i = 0 ∨ i = 1 ∨ i = 2 := by omega
          rcases this with rfl | rfl | rfl <;> decide +kernel
        omega
      refine dss_whenX (hp1 := tapeC a ++ [⟨af, oL (rows.map eRow)⟩]) (M := fun s h => ∃ rows : Rws, ((rows.map rowPart).Sublist (allParts (formsL.take i) ++ (shadesL.take (j + 1)).map fun s => (fm, s)) ∧ ∀ r ∈ rows, 1 ≤ r.2.2 ∧ r.2.2 ≤ 2) ∧ s = [some (isV (.ref a)), some (isI 2), some (isV (.ref af)), some (isS fm), some (isS sh)] ∧ h = tapeC a ++ [⟨af, oL (rows.map eRow)⟩])
        (dtx_cmp op_gt (re_ex1 fun r => re_and1 fun _ => re_to re_B0 fun v B q => ⟨_, q⟩) (de_pick (m := 5) (fr := [⟨af, oL (rows.map eRow)⟩]) c1 hr (by omega) (by decide) (de_var 0 rfl) de_int) de_int) ?_ ⟨rows, ⟨?_, hns⟩, rfl, rfl⟩ ?_
      · refine dss_appendX (φ := fun n : Int => 1 ≤ n ∧ n < 3) (f := fun n => eRow (fm, sh, n)) (hp1 := tapeC a ++ [⟨af, oL (rows.map eRow)⟩]) 1 (de_var 2 rfl) (de_is (de_tupA (As := [isS fm, isS sh, rngA 1 3]) (da_cons (de_var 3 rfl) (da_cons (de_var 4 rfl) (da_cons (de_call (A := rngA 1 3) (hq := tapeC a) (fr := [⟨af, oL (rows.map eRow)⟩]) c4 hr (by omega) (a, ()) trivial (da_cons (de_var 0 rfl) (da_cons (de_var 1 rfl) da_nil)) (fun B vs h => by rw [List.append_nil]; exact h) (fun v B hp' h => by exact ⟨h.2, h.1⟩)) da_nil)))) ?_) rfl (by rw [List.length_map]; omega) (fun n hn => ?_) rfl
        · rintro v B ⟨ad, xs, rfl, h1, h2⟩
          cases h2 with
          | cons g1 h2 => cases h2 with
            | cons g2 h2 => cases h2 with
              | cons g3 h2 =>
                cases h2
                obtain ⟨n, hn, g3⟩ := g3
                exact ⟨n, hn, .tup h1 (.cons g1 (.cons g2 (.cons g3 .nil)))⟩
        · refine dss_nil (Wk.refl _) ⟨rows ++ [(fm, sh, n)], ⟨?_, fun r hr => ?_⟩, rfl, ?_⟩
          · rw [htk, List.map_append, List.map_append, ← List.append_assoc]
            exact hsub.append (List.Sublist.refl _)
          · rcases List.mem_append.mp hr with hr | hr
            · exact hns r hr
            · rw [List.mem_singleton.mp hr]; exact ⟨hn.1, by show n ≤ 2; omega⟩
          · rw [List.map_append]; rfl
      · rw [htk, List.map_append, ← List.append_assoc]
        exact hsub.trans (List.sublist_append_left _ _)
      · rintro s h ⟨rows, hq, rfl, rfl⟩
        exact dss_nil (wk_mask [true, true, true, true, false] _) ⟨rows, hq, rfl, rfl⟩
    · rintro s h ⟨rows, ⟨hsub, hns⟩, rfl, rfl⟩
      rw [List.take_length] at hsub
      refine dss_nil (wk_mask [true, true, true, false, false] _) ⟨rows, ⟨?_, hns⟩, rfl, rfl⟩
      have e : allParts (formsL.take (i + 1)) = allParts (formsL.take i) ++ shadesL.map fun s => (fm, s) := flatMap_take hfm
      rw [e]; exact hsub
  · rintro s h ⟨rows, ⟨hsub, hns⟩, rfl, rfl⟩
    rw [List.take_length] at hsub
    refine dss_freeze (hp := tapeC a) (hp' := []) 2 rfl haf ?_
    exact dss_ret (A := isD (eRows rows)) (hp1 := tapeC a) (de_callTy call_tuple_of (rc_tupleL (ds := rows.map eRow)) Y.tuple bt_tuple (da_cons (de_var 2 rfl) da_nil)) fun v B h => ⟨rfl, rows, okr_of hsub hns, h⟩
abbrev spStock : Sp := spP (γ := Rws) (fun y => [isD (eRows y)]) (fun y => y.length ≤ 1000) (fun y => isO (oT kP .int (stk y)))
theorem ok_law_stock (F : FnD K d__law_stock f fd) : FnOk P w K mg base CX0 1 f fd ["_law_rows_here"] spStock := by
  refine ok_ds F sc__law_stock _ _ _ _ (fun _ => rfl) fun rows hy cdv A outer s H E hr => ?_
  have hz : rows.length ≤ 1000 := hy
  refine dss_newT (i := 1) kP PyData.int (fun a ha => ?_) sc__law_stock.nd
  refine dss_for (di_tup (f := eRow) (xs := rows) (hp1 := [⟨a, oT kP .int []⟩]) (de_var 0 rfl)) [2, 3, 4] (fun r => [isS r.1, isS r.2.1, isI r.2.2]) (fun r _ => dg_tup3 rfl (fun A => dg_name 2 sc__law_stock.nd rfl (Or.inl rfl)) (fun A => dg_name 3 sc__law_stock.nd rfl (Or.inl rfl)) (fun A => dg_name 4 sc__law_stock.nd rfl (Or.inl rfl)))
    (fun i s h => s = [some (isD (eRows rows)), some (isV (.ref a)), none, none, none] ∧ h = [⟨a, oT kP .int (stk (rows.take i))⟩]) ⟨rfl, rfl⟩ ?_ ?_
  · rintro i r s h hx ⟨rfl, rfl⟩
    have hi : i < rows.length := (List.getElem?_eq_some_iff.mp hx).1
    have hl : (stk (rows.take i)).length ≤ i := by
      have h0 := stk_len (rows.take i) []
      have h1 : (rows.take i).length ≤ i := by rw [List.length_take]; omega
      exact Nat.le_trans h0 (by rw [List.length_nil, Nat.zero_add]; exact h1)
    refine dss_putT (x := (r.1, r.2.1)) (y := dg (stk (rows.take i)) (r.1, r.2.1) + r.2.2) (hp1 := [⟨a, oT kP .int (stk (rows.take i))⟩]) 0 kP_inj (hu64 hr) (de_op op_add re_I0 (de_get2T (A := isV (.ref a)) (d := stk (rows.take i)) (x := (r.1, r.2.1)) (z := 0) kP_inj (hu64 hr) (acc_own 0 rfl) (de_var 1 rfl) (de_tup (ds := [.str r.1, .str r.2.1]) (da_cons (de_var 2 rfl) (da_cons (de_var 3 rfl) da_nil))) de_int) (de_var 4 rfl)) (de_var 1 rfl) (de_tup (ds := [.str r.1, .str r.2.1]) (da_cons (de_var 2 rfl) (da_cons (de_var 3 rfl) da_nil))) rfl (by omega)
      (dss_nil (wk_mask [true, true, false, false, false] _) ⟨rfl, ?_⟩)
    unfold stk
    rw [foldl_take hx]; rfl
  · rintro s h ⟨rfl, rfl⟩
    rw [List.take_length]
    refine dss_freezeO (hp := []) (hp' := []) 1 rfl ha ?_
    exact dss_ret (A := isO (oT kP .int (stk rows))) (hp1 := []) (de_var 1 rfl) fun v B h => ⟨rfl, h⟩
end
end PK
end
section
set_option Elab.async false
set_option linter.all false
set_option maxRecDepth 100000
set_option maxHeartbeats 2000000
/-! giving out, part by part -/
namespace PK
open PySem PySem.Spec PyProof.Rows L2
open PM (Want manyP manyF ls rs letsL aget aput keys dg)
def okSh (sh : List Str) (s : Str) : Prop := sh = [] ∨ s ∈ sh
def dec (F : Str → Int) (s : Str) : Str → Int := fun x => if x = s then F x - 1 else F x
inductive Rch (F0 : Str → Int) : List (List Str) → (Str → Int) → Prop
  | nil : Rch F0 [] F0
  | snoc {L : List (List Str)} {F : Str → Int} {sh : List Str} {s : Str} : Rch F0 L F → s ∈ shadesL → 0 < F s → okSh sh s → Rch F0 (L ++ [sh]) (dec F s)
theorem Rch.inv_nil {F0 F : Str → Int} (h : Rch F0 [] F) : F = F0 := by
  generalize e : ([] : List (List Str)) = L at h
  cases h with
  | nil => rfl
  | snoc _ _ _ _ => simp at e
theorem Rch.inv_snoc {F0 F : Str → Int} {L : List (List Str)} {sh : List Str} (h : Rch F0 (L ++ [sh]) F) : ∃ F' s, Rch F0 L F' ∧ s ∈ shadesL ∧ 0 < F' s ∧ okSh sh s ∧ F = dec F' s := by
  generalize e : L ++ [sh] = M at h
  cases h with
  | nil => simp at e
  | snoc h1 h2 h3 h4 =>
    obtain ⟨e1, e2⟩ := List.append_inj' e rfl
    subst e1
    cases e2
    exact ⟨_, _, h1, h2, h3, h4, rfl⟩
def vec (F : Str → Int) : List Int := shadesL.map F
def unitsOf (f : Str) (ws : List Wt) : List (List Str) := ws.flatMap fun w => if w.f = f then List.replicate w.n.toNat w.sh else []
def GivenOut (rows : Rws) (ws : List Wt) : Prop := ∀ f ∈ formsL, ∃ F, Rch (fun s => manyP rows f s) (unitsOf f ws) F
/-! ### what cannot be given out -/
def pot (T : List Str) (F : Str → Int) : Int := ls T F
theorem pot_dec {T : List Str} (hn : T.Nodup) (F : Str → Int) (s : Str) : pot T (dec F s) = pot T F - if s ∈ T then 1 else 0 := by
  unfold pot
  induction T with
  | nil => simp [PM.ls_nil]
  | cons a T ih =>
    rw [List.nodup_cons] at hn
    rw [PM.ls_cons, PM.ls_cons, ih hn.2]
    unfold dec
    by_cases q : a = s
    · subst q
      rw [if_pos rfl, if_neg hn.1, if_pos (List.mem_cons_self ..)]; omega
    · rw [if_neg q]
      by_cases q2 : s ∈ T
      · rw [if_pos q2, if_pos (List.mem_cons_of_mem _ q2)]; omega
      · rw [if_neg q2, if_neg]
        · omega
        · intro z
          rcases List.mem_cons.mp z with z | z
          · exact q z.symm
          · exact q2 z
theorem rch_pot {F0 F : Str → Int} {L : List (List Str)} {T : List Str} {Pb : List Str → Bool} (hn : T.Nodup) (hP : ∀ sh, Pb sh = true → ∀ s ∈ shadesL, okSh sh s → s ∈ T) (h : Rch F0 L F) (h0 : ∀ s, 0 ≤ F0 s) :
    (∀ s, 0 ≤ F s) ∧ pot T F + ((L.filter Pb).length : Int) ≤ pot T F0 := by
  induction h with
  | nil => exact ⟨h0, by simp⟩
  | @snoc L F sh s _ hs hp hok ih =>
    obtain ⟨h1, h2⟩ := ih
    refine ⟨fun x => ?_, ?_⟩
    · unfold dec
      split
      · rename_i e; subst e; omega
      · exact h1 x
    · rw [pot_dec hn, List.filter_append, List.length_append]
      cases q : Pb sh with
      | true =>
        have hT := hP sh q s hs hok
        rw [if_pos hT]
        simp [List.filter_cons, q]
        omega
      | false =>
        simp [List.filter_cons, q]
        split <;> omega
theorem pot_nonneg {T : List Str} {F : Str → Int} (h : ∀ s, 0 ≤ F s) : 0 ≤ pot T F := PM.ls_nonneg fun a _ => h a
theorem units_count (f : Str) (Pb : List Str → Bool) : ∀ ws : List Wt, (∀ w ∈ ws, 0 ≤ w.n) → (((unitsOf f ws).filter Pb).length : Int) = ls ws fun w => if w.f = f ∧ Pb w.sh = true then w.n else 0
  | [], _ => rfl
  | w :: ws, h => by
    have ih := units_count f Pb ws fun x hx => h x (List.mem_cons_of_mem _ hx)
    have hw := h w (List.mem_cons_self ..)
    unfold unitsOf at ih ⊢
    rw [List.flatMap_cons, List.filter_append, List.length_append, PM.ls_cons, Int.natCast_add, ih]
    congr 1
    by_cases q : w.f = f
    · rw [if_pos q]
      cases q2 : Pb w.sh with
      | true =>
        rw [if_pos ⟨q, rfl⟩, List.filter_eq_self.mpr fun x hx => by rw [List.eq_of_mem_replicate hx]; exact q2, List.length_replicate]; omega
      | false =>
        rw [if_neg (by simp), List.filter_eq_nil_iff.mpr fun x hx z => by rw [List.eq_of_mem_replicate hx, q2] at z; cases z]; rfl
    · rw [if_neg q, if_neg fun z => q z.1]; rfl
end PK
end
section
set_option Elab.async false
set_option linter.all false
set_option maxRecDepth 100000
set_option maxHeartbeats 2000000
namespace PK
open PySem PySem.Spec PyProof.Rows L2
open PM (Want manyP manyF ls rs letsL aget aput keys dg)
theorem ls_sub {α : Type} {F : α → Int} {l m : List α} (h : l.Sublist m) (h0 : ∀ a ∈ m, 0 ≤ F a) : ls l F ≤ ls m F := by
  induction h with
  | slnil => exact Int.le_refl _
  | cons a _ ih =>
    have h1 := ih fun x hx => h0 x (List.mem_cons_of_mem _ hx)
    have h2 := h0 a (List.mem_cons_self ..)
    rw [PM.ls_cons]; omega
  | cons_cons a _ ih =>
    have h1 := ih fun x hx => h0 x (List.mem_cons_of_mem _ hx)
    rw [PM.ls_cons, PM.ls_cons]; omega
theorem many_nonneg {rows : Rws} (h : ∀ r ∈ rows, 1 ≤ r.2.2) (f s : Str) : 0 ≤ manyP rows f s := PM.ls_nonneg fun r hr => by have := h r (List.mem_filter.mp hr).1; omega
theorem ls_one {T : List Str} (hn : T.Nodup) {s : Str} (hs : s ∈ T) (c : Int) : ls T (fun x => if s = x then c else 0) = c := by
  induction T with
  | nil => cases hs
  | cons a T ih =>
    rw [List.nodup_cons] at hn
    rw [PM.ls_cons]
    rcases List.mem_cons.mp hs with rfl | hs
    · rw [if_pos rfl]
      have : ls T (fun x => if s = x then c else 0) = ls T (fun _ => 0) := PM.ls_congr fun x hx => if_neg fun e => hn.1 (by rw [e]; exact hx)
      rw [this, PM.ls_zero]; omega
    · rw [ih hn.2 hs, if_neg fun e => hn.1 (by rw [← e]; exact hs)]; omega
theorem many_form {f : Str} : ∀ {rows : Rws}, (∀ r ∈ rows, r.2.1 ∈ shadesL) → manyF rows f = ls shadesL fun s => manyP rows f s
  | [], _ => by
    have : ls shadesL (fun s => manyP ([] : Rws) f s) = ls shadesL (fun _ => 0) := PM.ls_congr fun s _ => rfl
    rw [this, PM.ls_zero]; rfl
  | r :: rows, h => by
    have ih := many_form (f := f) (rows := rows) fun x hx => h x (List.mem_cons_of_mem _ hx)
    have e1 : manyF (r :: rows) f = (if r.1 = f then r.2.2 else 0) + manyF rows f := by
      unfold manyF
      rw [List.filter_cons]
      by_cases q : r.1 = f
      · rw [if_pos (decide_eq_true q), if_pos q, PM.ls_cons]
      · rw [if_neg (by simpa using q), if_neg q]; omega
    have e2 : ls shadesL (fun s => manyP (r :: rows) f s) = ls shadesL (fun s => (if r.2.1 = s then (if r.1 = f then r.2.2 else 0) else 0) + manyP rows f s) := PM.ls_congr fun s _ => by
      unfold manyP
      rw [List.filter_cons]
      by_cases q : r.1 = f
      · by_cases q2 : r.2.1 = s
        · rw [if_pos (by simp [q, q2]), PM.ls_cons, if_pos q2, if_pos q]
        · rw [if_neg (by simp [q2]), if_neg q2]; omega
      · rw [if_neg (by simp [q]), if_neg q]
        split <;> omega
    rw [e1, e2, PM.ls_add, ls_one shades_nodup (h r (List.mem_cons_self ..)), ih]
/-- what a bar tells cannot be given out -/
theorem not_given {rows : Rws} {ws ws' : List Wt} {f : Str} {o : Option (List Str)} (okr : OkR rows) (hb : IsBar rows ws' f o) (hsub : ws'.Sublist ws) (hn : ∀ w ∈ ws, 0 ≤ w.n) : ¬ GivenOut rows ws := fun G => by
  obtain ⟨F, hF⟩ := G f hb.fm
  have h0 : ∀ s, 0 ≤ (fun s => manyP rows f s) s := fun s => many_nonneg okr.n1 f s
  have hlt := hb.lt
  cases o with
  | none =>
    obtain ⟨p1, p2⟩ := rch_pot (T := shadesL) (Pb := fun _ => true) shades_nodup (fun sh _ s hs _ => hs) hF h0
    have p3 := pot_nonneg (T := shadesL) p1
    rw [units_count f (fun _ => true) ws hn] at p2
    have e1 : pot shadesL (fun s => manyP rows f s) = manyF rows f := (many_form okr.s).symm
    have e2 : wantedD ws' f none ≤ ls ws fun w => if w.f = f ∧ (fun _ : List Str => true) w.sh = true then w.n else 0 := by
      show ls (ws'.filter fun w => decide (w.f = f)) (·.n) ≤ _
      rw [PM.ls_filter]
      have e3 : ls ws' (fun w : Wt => if decide (w.f = f) = true then w.n else 0) = ls ws' fun w => if w.f = f ∧ (fun _ : List Str => true) w.sh = true then w.n else 0 := PM.ls_congr fun w _ => by
        by_cases q : w.f = f <;> simp [q]
      rw [e3]
      refine ls_sub hsub fun w hw => ?_
      have := hn w hw
      split <;> omega
    have hlt' : manyF rows f < wantedD ws' f none := hlt
    have p2' := Int.le_trans (Int.add_le_add_left e2 (pot shadesL F)) p2
    omega
  | some shs =>
    have hnd : shs.Nodup := (hb.oo.up shs rfl).imp fun {a b} h e => by
      subst e
      exact absurd h (List.lt_irrefl _)
    obtain ⟨p1, p2⟩ := rch_pot (T := shs) (Pb := fun sh => !sh.isEmpty && sh.all fun s => decide (s ∈ shs)) hnd (fun sh hP s _ ho => by
      rw [Bool.and_eq_true] at hP
      rcases ho with rfl | ho
      · simp at hP
      · exact of_decide_eq_true (List.all_eq_true.mp hP.2 s ho)) hF h0
    have p3 := pot_nonneg (T := shs) p1
    rw [units_count f _ ws hn] at p2
    have e2 : wantedD ws' f (some shs) ≤ ls ws fun w => if w.f = f ∧ (fun sh : List Str => !sh.isEmpty && sh.all fun s => decide (s ∈ shs)) w.sh = true then w.n else 0 := by
      show ls ((ws'.filter fun w => decide (w.f = f)).filter fun w => !w.sh.isEmpty && w.sh.all fun s => decide (s ∈ shs)) (·.n) ≤ _
      rw [PM.ls_filter, PM.ls_filter]
      have e3 : ls ws' (fun w : Wt => if decide (w.f = f) = true then (if (!w.sh.isEmpty && w.sh.all fun s => decide (s ∈ shs)) = true then w.n else 0) else 0) = ls ws' fun w => if w.f = f ∧ (fun sh : List Str => !sh.isEmpty && sh.all fun s => decide (s ∈ shs)) w.sh = true then w.n else 0 := PM.ls_congr fun w _ => by
        by_cases q : w.f = f
        · rw [if_pos (decide_eq_true q)]
          by_cases q2 : (!w.sh.isEmpty && w.sh.all fun s => decide (s ∈ shs)) = true
          · rw [if_pos q2, if_pos ⟨q, q2⟩]
          · rw [if_neg q2, if_neg fun z => q2 z.2]
        · rw [if_neg (by simpa using q), if_neg fun z => q z.1]
      rw [e3]
      refine ls_sub hsub fun w hw => ?_
      have := hn w hw
      split <;> omega
    have hlt' : ls shs (fun s => manyP rows f s) < wantedD ws' f (some shs) := hlt
    have e1 : pot shs (fun s => manyP rows f s) = ls shs (fun s => manyP rows f s) := rfl
    have p2' := Int.le_trans (Int.add_le_add_left e2 (pot shs F)) p2
    omega
/-! ### what can be given out -/
def cntS (s : Str) (l : List (List Str × Str)) : Int := ((l.filter fun p => decide (p.2 = s)).length : Int)
theorem cntS_cons (s : Str) (p : List Str × Str) (l : List (List Str × Str)) : cntS s (p :: l) = (if p.2 = s then 1 else 0) + cntS s l := by
  unfold cntS
  rw [List.filter_cons]
  by_cases q : p.2 = s
  · rw [if_pos (decide_eq_true q), if_pos q, List.length_cons]; omega
  · rw [if_neg (by simpa using q), if_neg q]; omega
theorem cntS_nonneg (s : Str) (l : List (List Str × Str)) : 0 ≤ cntS s l := by unfold cntS; omega
theorem rch_path {F0 : Str → Int} : ∀ (l : List (List Str × Str)) (L : List (List Str)) (F : Str → Int), Rch F0 L F → (∀ p ∈ l, p.2 ∈ shadesL ∧ okSh p.1 p.2) → (∀ s, cntS s l ≤ F s) → ∃ F', Rch F0 (L ++ l.map (·.1)) F'
  | [], L, F, h, _, _ => ⟨F, by rw [List.map_nil, List.append_nil]; exact h⟩
  | p :: l, L, F, h, h1, h2 => by
    obtain ⟨a1, a2⟩ := h1 p (List.mem_cons_self ..)
    have h3 := h2 p.2
    rw [cntS_cons, if_pos rfl] at h3
    have h4 := cntS_nonneg p.2 l
    obtain ⟨F', hF'⟩ := rch_path l (L ++ [p.1]) (dec F p.2) (h.snoc a1 (by omega) a2) (fun q hq => h1 q (List.mem_cons_of_mem _ hq)) fun s => by
      have h5 := h2 s
      rw [cntS_cons] at h5
      unfold dec
      by_cases q : s = p.2
      · subst q; rw [if_pos rfl]; rw [if_pos rfl] at h5; omega
      · rw [if_neg q]; rw [if_neg fun e => q e.symm] at h5; omega
    refine ⟨F', ?_⟩
    rw [List.append_assoc] at hF'
    exact hF'
def expG (g : Gf) : List Str := g.flatMap fun p => List.replicate p.2.toNat p.1
theorem expG_len : ∀ (g : Gf), (∀ p ∈ g, 0 < p.2) → ((expG g).length : Int) = (g.map (·.2)).sum
  | [], _ => rfl
  | p :: g, h => by
    have ih := expG_len g fun q hq => h q (List.mem_cons_of_mem _ hq)
    have hp := h p (List.mem_cons_self ..)
    unfold expG at ih ⊢
    rw [List.flatMap_cons, List.length_append, List.length_replicate, List.map_cons, List.sum_cons, Int.natCast_add, ih]
    omega
theorem expG_mem {g : Gf} {s : Str} (h : s ∈ expG g) : ∃ p ∈ g, p.1 = s := by
  obtain ⟨p, hp, h2⟩ := List.mem_flatMap.mp h
  exact ⟨p, hp, (List.eq_of_mem_replicate h2).symm⟩
theorem expG_cnt (sh : List Str) (s : Str) : ∀ (g : Gf), (∀ p ∈ g, 0 < p.2) → cntS s ((expG g).map fun x => (sh, x)) = ls g fun p => if p.1 = s then p.2 else 0
  | [], _ => rfl
  | p :: g, h => by
    have ih := expG_cnt sh s g fun q hq => h q (List.mem_cons_of_mem _ hq)
    have hp := h p (List.mem_cons_self ..)
    unfold expG at ih ⊢
    rw [List.flatMap_cons, List.map_append, PM.ls_cons, ← ih]
    unfold cntS
    rw [List.filter_append, List.length_append, Int.natCast_add]
    congr 1
    rw [List.map_replicate]
    by_cases q : p.1 = s
    · rw [if_pos q, List.filter_eq_self.mpr fun x hx => by rw [List.eq_of_mem_replicate hx]; exact decide_eq_true q, List.length_replicate]; omega
    · rw [if_neg q, List.filter_eq_nil_iff.mpr fun x hx z => by rw [List.eq_of_mem_replicate hx] at z; exact q (of_decide_eq_true z)]; rfl
def prs (f : Str) (z : List (Wt × Gf)) : List (List Str × Str) := z.flatMap fun q => if q.1.f = f then (expG q.2).map fun s => (q.1.sh, s) else []
theorem prs_units {f : Str} : ∀ {ws : List Wt} {gs : List Gf}, gs.length = ws.length → (∀ q ∈ ws.zip gs, OkG q.1.n q.2) → (prs f (ws.zip gs)).map (·.1) = unitsOf f ws
  | [], _, _, _ => by simp [prs, unitsOf]
  | w :: ws, [], h, _ => by simp at h
  | w :: ws, g :: gs, h, hg => by
    have ih := prs_units (f := f) (ws := ws) (gs := gs) (by simpa using h) fun q hq => hg q (List.mem_cons_of_mem _ hq)
    have ok := hg (w, g) (List.mem_cons_self ..)
    unfold prs unitsOf at ih ⊢
    rw [List.zip_cons_cons, List.flatMap_cons, List.flatMap_cons, List.map_append, ih]
    congr 1
    by_cases q : w.f = f
    · rw [if_pos q, if_pos q, List.map_map]
      have e1 := expG_len g ok.pos
      rw [ok.sum] at e1
      have e2 : (expG g).length = w.n.toNat := by have e1 : ((expG g).length : Int) = w.n := e1; omega
      have e3 : ((expG g).map ((fun x : List Str × Str => x.1) ∘ fun s => (w.sh, s))) = List.replicate (expG g).length w.sh := map_const w.sh _
      rw [e3, e2]
    · rw [if_neg q, if_neg q]; rfl
theorem prs_cnt {f s : Str} : ∀ {z : List (Wt × Gf)}, (∀ q ∈ z, ∀ p ∈ q.2, 0 < p.2) → cntS s (prs f z) = ls z fun q => manyP (q.2.map fun p => ((q.1.f, p.1, p.2) : Str × Str × Int)) f s
  | [], _ => rfl
  | q :: z, h => by
    have ih := prs_cnt (f := f) (s := s) (z := z) fun x hx => h x (List.mem_cons_of_mem _ hx)
    have hq := h q (List.mem_cons_self ..)
    rw [PM.ls_cons, ← ih]
    have e : cntS s (prs f (q :: z)) = cntS s (if q.1.f = f then (expG q.2).map fun s => (q.1.sh, s) else []) + cntS s (prs f z) := by
      unfold prs cntS
      rw [List.flatMap_cons, List.filter_append, List.length_append, Int.natCast_add]
    rw [e]
    congr 1
    rw [manyP_ls, PM.ls_map]
    by_cases q2 : q.1.f = f
    · rw [if_pos q2, expG_cnt q.1.sh s q.2 hq]
      exact PM.ls_congr fun p _ => by
        by_cases q3 : p.1 = s
        · rw [if_pos q3, if_pos (by simp [q2, q3])]
        · rw [if_neg q3, if_neg (by simp [q3])]
    · rw [if_neg q2]
      have : ls q.2 (fun p => if (decide (q.1.f = f) && decide (p.1 = s)) = true then p.2 else 0) = ls q.2 (fun _ => 0) := PM.ls_congr fun p _ => if_neg (by simp [q2])
      rw [this, PM.ls_zero]; rfl
theorem given_of {rows : Rws} {ws : List Wt} {gs : List Gf} (ok : OkGv ws gs) (sv : Serves rows ws gs) : GivenOut rows ws := fun f _ => by
  have hu := prs_units (f := f) ok.len ok.g
  have hc : ∀ s, cntS s (prs f (ws.zip gs)) ≤ manyP rows f s := fun s => by
    rw [prs_cnt fun q hq => (ok.g q hq).pos]
    have := sv f s
    unfold givenRows at this
    rw [manyP_flatMap] at this
    exact this
  obtain ⟨F, hF⟩ := rch_path (F0 := fun s => manyP rows f s) (prs f (ws.zip gs)) [] _ .nil (fun p hp => by
    obtain ⟨q, hq, h2⟩ := List.mem_flatMap.mp hp
    split at h2
    · obtain ⟨s, hs, rfl⟩ := List.mem_map.mp h2
      obtain ⟨pp, hpp, rfl⟩ := expG_mem hs
      refine ⟨(ok.g q hq).sh pp hpp, ?_⟩
      by_cases e : q.1.sh = []
      · exact .inl e
      · exact .inr (ok.r q hq e pp hpp)
    · cases h2) hc
  rw [List.nil_append, hu] at hF
  exact ⟨F, hF⟩
end PK
end
section
set_option Elab.async false
set_option linter.all false
set_option maxRecDepth 100000
set_option maxHeartbeats 8000000
namespace PK
open PySem PySem.Spec PyProof.Rows L2
open PM (Want manyP manyF ls letsL aget aput keys dg)
/-! ### rules -/
section
variable {X : Cx} {sl : SL} {hp hp1 : List Cell} {e o : Expr} {pos p tpos : Pos} {elts : List Expr} {kk : Nat} {a : Addr}
theorem di_enumL {xs : List PyData} (hm : X.mg "enumerate" = none) (h : DE X e sl hp (isD (.list xs)) hp1) (hg : Gl X "enumerate" := by rfl) (hs : starEach [e] X.env = [(false, eval e X.env)] := by rfl) (hs2 : starEach [e] X.env = (false, eval e X.env) :: starEach [] X.env := by rfl) :
    DI X (.Tuple elts kk tpos) (.Call (.Name "enumerate" p) [e] [] pos) sl hp (xs.zip (List.range xs.length)) (fun q => isD (.tuple [.int ((q.2 : Nat) : Int), q.1])) hp1 := by
  refine ⟨_, pi_enum hg hm (da_cons h da_nil hs2) hs, fun σ H R ⟨Z, B, S, T, k⟩ => ⟨Z, B, S, T, fun vs B1 H1 m1 S1 q1 => ?_⟩⟩
  obtain ⟨v, rfl, hv⟩ := all2_one q1
  cases hv with
  | lst h1 r1 =>
    rename_i a vs
    have hl := r1.length
    refine ⟨a, vs, rfl, SqL.of (S1.bh _ _ h1), k B1 H1 _ m1 S1 ⟨fun i H hi m _ => ?_, fun H m _ => ?_, fun i x H v H' hx m y => ?_⟩⟩
    · have hi' : i < vs.length := by simp at hi; omega
      exact ⟨vs, vs[i], SqL.of (m _ _ h1), by simp [hi']⟩
    · exact ⟨vs, SqL.of (m _ _ h1), by simp; omega⟩
    · obtain ⟨T, u, rfl, hT, rfl, hu⟩ := y
      have hu' := hu vs (SqL.of (m _ _ h1))
      obtain ⟨d, hd, rd⟩ := r1.get' hu'
      have hx' : x = (d, i) := by
        rw [List.getElem?_zip_eq_some] at hx
        obtain ⟨e1, e2⟩ := hx
        rw [hd] at e1
        obtain ⟨hl2, he2⟩ := List.getElem?_eq_some_iff.mp e2
        rw [List.getElem_range] at he2
        cases x
        simp at e1 he2
        rw [e1, he2]
      subst hx'
      exact .inr <| .inl ⟨T, _, _, rfl, hT, rfl, .cons (.int _) (.cons rd .nil), rfl⟩
theorem de_lenT {κ β : Type} [DecidableEq κ] {ke : κ → List Key} {ve : β → PyData} {d : List (κ × β)} (j : Nat) (hj : hp[j]? = some ⟨a, oT ke ve d⟩) (hm : X.mg "len" = none) (hb : bootBuiltins "len" = some (.builtin "len")) (ho : DE X o sl hp (isV (.ref a)) hp) (hg : Gl X "len" := by rfl) (he : starEach [o] X.env = (false, eval o X.env) :: starEach [] X.env := by rfl) (hpl : (backTo pos (starEach [] X.env)).any (·.1) = false := by rfl) : DE X (.Call (.Name "len" p) [o] [] pos) sl hp (isI (d.length : Int)) hp :=
  pe_imp (pe_callB call_len_dT hg hm hb (da_cons ho da_nil he) (by decide) (by decide) he hpl) fun σ H Q ⟨Z, B, S, T, k⟩ => ⟨Z, B, S, T, fun vs B1 H1 m1 S1 q1 => by
    obtain ⟨v, rfl, qv⟩ := all2_one q1
    have qv' : v = .ref a := qv
    subst qv'
    obtain ⟨u, hu, kvs, rfl, pv⟩ := S1.at hj
    exact ⟨a, kvs, rfl, hu, k _ B1 H1 m1 S1 (by rw [Paired.length pv]; exact .int _)⟩⟩
theorem rc_intB {b : Bool} : RC (fun xs H Q => (∃ i, xs = [.int i] ∧ Q (.int i) H) ∨ ∃ k, xs = [.bl k] ∧ Q (.int (if k then 1 else 0)) H) [isB b] (isI (if b then 1 else 0)) := fun Z B H hp vs Q S ha k => by
  obtain ⟨v, rfl, hv⟩ := all2_one ha
  cases hv
  exact .inr ⟨b, rfl, k _ B H (Same.refl B) S (.int _)⟩
end
theorem cut_set {α : Type} {g : α → PyData} {l : List α} {k : Nat} {x : α} (hk : k < l.length) : (cutD (l.map g) none (some (k : Int)) ++ [g x]) ++ cutD (l.map g) (some ((k + 1 : Nat) : Int)) none = (l.set k x).map g := by
  have e1 : cutD (l.map g) none (some (k : Int)) = (l.take k).map g := by
    unfold cutD
    rw [HT.sIx_none, HT.sIx_nat, List.drop_zero, List.map_take]
    congr 1
    rw [List.length_map]; omega
  have e2 : cutD (l.map g) (some ((k + 1 : Nat) : Int)) none = (l.drop (k + 1)).map g := by
    unfold cutD
    rw [HT.sIx_none, HT.sIx_nat, List.map_drop]
    have : min (k + 1) (l.map g).length = k + 1 := by rw [List.length_map]; omega
    rw [this]
    refine List.take_of_length_le ?_
    rw [List.length_drop]; omega
  rw [e1, e2, List.set_eq_take_append_cons_drop, if_pos hk, List.map_append, List.map_cons, List.append_assoc]
  rfl
/-! ### vectors as keys -/
def keV (v : List Int) : List Key := v.map Sum.inl
theorem keV_inj (a b : List Int) (h : keV a = keV b) : a = b := by
  induction a generalizing b with
  | nil => cases b with
    | nil => rfl
    | cons y b => cases h
  | cons x a ih => cases b with
    | nil => cases h
    | cons y b =>
      obtain ⟨h1, h2⟩ := List.cons.inj h
      rw [Sum.inl.inj h1, ih b h2]
theorem eKey_keV (v : List Int) : eKey (keV v) = .tuple (v.map .int) := by
  unfold eKey keV
  rw [List.map_map]; rfl
abbrev veT : Unit → PyData := fun _ => .bool true
abbrev DV := List (List Int × Unit)
def allV : Nat → List (List Int)
  | 0 => [[]]
  | n + 1 => [0, 1, 2].flatMap fun x : Int => (allV n).map fun v => x :: v
theorem mem_allV : ∀ (v : List Int), (∀ x ∈ v, 0 ≤ x ∧ x ≤ 2) → v ∈ allV v.length
  | [], _ => List.mem_singleton.mpr rfl
  | x :: v, h => by
    have hx := h x (List.mem_cons_self ..)
    have ih := mem_allV v fun y hy => h y (List.mem_cons_of_mem _ hy)
    refine List.mem_flatMap.mpr ⟨x, ?_, List.mem_map.mpr ⟨v, ih, rfl⟩⟩
    have : x = 0 ∨ x = 1 ∨ x = 2 := by omega
    rcases this with rfl | rfl | rfl <;> simp
theorem dv_len {d : DV} (hn : (keys d).Nodup) (h : ∀ v ∈ keys d, v.length = 4 ∧ ∀ x ∈ v, 0 ≤ x ∧ x ≤ 2) : d.length ≤ 81 := by
  have h1 := PM.len_sub (keys d) (allV 4) hn fun v hv => by
    obtain ⟨e1, e2⟩ := h v hv
    rw [← e1]; exact mem_allV v e2
  have h2 : (allV 4).length = 81 := by decide +kernel
  rw [h2] at h1
  unfold keys at h1
  rw [List.length_map] at h1
  exact h1
def stp (sh : List Str) (r v : List Int) (a : Nat) : Prop := ∃ s, shadesL[a]? = some s ∧ okSh sh s ∧ ∃ x, r[a]? = some x ∧ 0 < x ∧ v = r.set a (x - 1)
theorem vec_at {F : Str → Int} {a : Nat} {s : Str} (h : shadesL[a]? = some s) : (vec F)[a]? = some (F s) := by
  unfold vec; rw [List.getElem?_map, h]; rfl
theorem vec_len (F : Str → Int) : (vec F).length = 4 := by unfold vec; rw [List.length_map]; rfl
theorem vec_dec {F : Str → Int} {a : Nat} {s : Str} (h : shadesL[a]? = some s) : (vec F).set a (F s - 1) = vec (dec F s) := by
  apply List.ext_getElem?
  intro j
  by_cases hj : j < 4
  · obtain ⟨t, ht⟩ : ∃ t, shadesL[j]? = some t := ⟨_, List.getElem?_eq_getElem (show j < shadesL.length from hj)⟩
    rw [vec_at ht]
    by_cases e : a = j
    · subst e
      rw [h] at ht; cases ht
      rw [List.getElem?_set_self (by rw [vec_len]; exact hj)]
      unfold dec; rw [if_pos rfl]
    · rw [List.getElem?_set_ne e, vec_at ht]
      unfold dec
      rw [if_neg]
      intro z
      subst z
      have h1 := List.getElem?_eq_some_iff.mp h
      have h2 := List.getElem?_eq_some_iff.mp ht
      exact e ((List.getElem_inj shades_nodup).mp (h1.2.trans h2.2.symm))
  · rw [List.getElem?_eq_none (by rw [List.length_set, vec_len]; omega), List.getElem?_eq_none (by rw [vec_len]; omega)]
/-- the vectors that are found -/
structure VInv (F0 : Str → Int) (L : List (List Str)) (d : DV) : Prop where
  nd : (keys d).Nodup
  iff : ∀ v, v ∈ keys d ↔ ∃ F, Rch F0 L F ∧ v = vec F
theorem rch_le {F0 F : Str → Int} {L : List (List Str)} (h : Rch F0 L F) : ∀ s, F s ≤ F0 s := by
  induction h with
  | nil => exact fun s => Int.le_refl _
  | snoc _ _ _ _ ih =>
    intro s
    have := ih s
    unfold dec
    split <;> omega
theorem rch_nonneg {F0 F : Str → Int} {L : List (List Str)} (h : Rch F0 L F) (h0 : ∀ s, 0 ≤ F0 s) : ∀ s, 0 ≤ F s := (rch_pot (T := []) (Pb := fun _ => false) List.nodup_nil (fun _ z => by cases z) h h0).1
theorem VInv.range {F0 : Str → Int} {L : List (List Str)} {d : DV} (V : VInv F0 L d) (h0 : ∀ s, 0 ≤ F0 s ∧ F0 s ≤ 2) : ∀ v ∈ keys d, v.length = 4 ∧ ∀ x ∈ v, 0 ≤ x ∧ x ≤ 2 := fun v hv => by
  obtain ⟨F, hF, rfl⟩ := (V.iff v).mp hv
  refine ⟨vec_len F, fun x hx => ?_⟩
  obtain ⟨s, _, rfl⟩ := List.mem_map.mp hx
  have h1 := rch_le hF s
  have h2 := rch_nonneg hF (fun s => (h0 s).1) s
  have h3 := h0 s
  omega
theorem stp_range {sh : List Str} {r v : List Int} {a : Nat} (h : stp sh r v a) (hr : r.length = 4 ∧ ∀ x ∈ r, 0 ≤ x ∧ x ≤ 2) : v.length = 4 ∧ ∀ x ∈ v, 0 ≤ x ∧ x ≤ 2 := by
  obtain ⟨s, _, _, x, hx, hp, rfl⟩ := h
  refine ⟨by rw [List.length_set]; exact hr.1, fun y hy => ?_⟩
  have hxr := hr.2 x (List.mem_of_getElem? hx)
  rcases List.mem_or_eq_of_mem_set hy with h | h
  · exact hr.2 y h
  · omega
theorem VInv.next {F0 : Str → Int} {L : List (List Str)} {d g : DV} {sh : List Str} (V : VInv F0 L d) (hn : (keys g).Nodup) (h : ∀ v, v ∈ keys g ↔ ∃ r ∈ keys d, ∃ a, stp sh r v a) : VInv F0 (L ++ [sh]) g where
  nd := hn
  iff v := by
    rw [h v]
    constructor
    · rintro ⟨r, hr, a, s, hs, ho, x, hx, hp, rfl⟩
      obtain ⟨F, hF, rfl⟩ := (V.iff r).mp hr
      rw [vec_at hs] at hx
      cases hx
      exact ⟨dec F s, hF.snoc (List.mem_of_getElem? hs) hp ho, vec_dec hs⟩
    · rintro ⟨F, hF, rfl⟩
      obtain ⟨F', s, h1, h2, h3, h4, rfl⟩ := hF.inv_snoc
      obtain ⟨a, ha⟩ := List.getElem?_of_mem h2
      exact ⟨vec F', (V.iff _).mpr ⟨F', h1, rfl⟩, a, s, ha, h4, F' s, vec_at ha, h3, (vec_dec ha).symm⟩
theorem keys_put_mem {d : DV} {v w : List Int} : w ∈ keys (aput d v ()) ↔ w ∈ keys d ∨ w = v := by
  rw [PM.keys_aput]
  by_cases q : (aget d v).isSome = true
  · rw [if_pos q]
    exact ⟨.inl, fun h => h.elim id fun e => e ▸ PM.aget_isSome_keys.mp q⟩
  · rw [if_neg q, List.mem_append, List.mem_singleton]
end PK
end
section
set_option Elab.async false
set_option linter.all false
set_option maxRecDepth 100000
set_option maxHeartbeats 8000000
namespace PK
open PySem PySem.Spec PyProof.Rows L2
open PM (Want manyP manyF ls letsL aget aput keys dg)
section
variable {P : Program} {w : World} {K : PySem.W.Frag} {mg : Str → Option Value} {base : Heap} {f : Addr} {fd : FuncData}
abbrev spGivenOut : Sp := spP (γ := Rws × List Wt) (fun y => [isO (oT kP .int (stk y.1)), isD (eWants y.2)]) (fun y => OkR y.1 ∧ OkWs y.2) (fun y => exA fun b : Bool => andA (b = true ↔ GivenOut y.1 y.2) (isB b))
def goSl (rows : Rws) (ws : List Wt) (s2 s3 s4 s5 s6 s7 s8 s9 s10 s11 : Option MA) : SL := [some (isO (oT kP .int (stk rows))), some (isD (eWants ws)), s2, s3, s4, s5, s6, s7, s8, s9, s10, s11]
theorem ok_law_given_out (Y : Bi mg) (c2 : C8.Cal P w K mg base 1 "_law_forms" spLForms []) (c3 : C8.Cal P w K mg base 1 "_law_shades" spLShades []) (F : FnD K d__law_given_out f fd) : FnOk P w K mg base CX0 2 f fd ["_law_stock_here", "_law_wants_here"] spGivenOut := by
  refine ok_ds F sc__law_given_out _ _ _ _ (fun _ => rfl) fun y hy cdv A outer s H E hr => ?_
  obtain ⟨rows, ws⟩ := y
  obtain ⟨okr, okw⟩ := hy
  have okr : OkR rows := okr
  have okw : OkWs ws := okw
  have hF0 : ∀ fm s, 0 ≤ manyP rows fm s ∧ manyP rows fm s ≤ 2 := fun fm s => by
    refine ⟨many_nonneg okr.n1 fm s, ?_⟩
    by_cases h : ∃ r ∈ rows, (r.1, r.2.1) = (fm, s)
    · obtain ⟨r, hr, e⟩ := h
      have e1 := (Prod.mk.inj e).1
      have e2 := (Prod.mk.inj e).2
      have := PM.manyP_row okr.nd hr
      rw [e1, e2] at this
      rw [this]; exact okr.n2 r hr
    · have : rows.filter (fun r => decide (r.1 = fm) && decide (r.2.1 = s)) = [] := List.filter_eq_nil_iff.mpr fun r hr z => by
        simp only [Bool.and_eq_true, decide_eq_true_eq] at z
        exact h ⟨r, hr, by rw [z.1, z.2]⟩
      unfold manyP
      rw [this]; show (0 : Int) ≤ 2; decide
  refine dss_for (di_list (f := PyData.str) (xs := formsL) (hp1 := []) (de_callP0 c2 hr (by omega) () trivial rfl)) [2] (fun x => [isS x]) (fun x _ => dg_name 2 sc__law_given_out.nd rfl (Or.inr rfl))
    (fun i s h => (∀ fm ∈ formsL.take i, ∃ F, Rch (fun s => manyP rows fm s) (unitsOf fm ws) F) ∧ s = goSl rows ws none none none none none none none none none none ∧ h = []) ⟨(fun f h => by cases h), rfl, rfl⟩ ?_ ?_
  · rintro i fm s h hfm ⟨hdone, rfl, rfl⟩
    have hF := hF0 fm
    have hstk : ∀ s, dg (stk rows) (fm, s) = manyP rows fm s := fun s => by
      have := stk_many rows [] (fm, s)
      unfold stk
      rw [this]; exact Int.zero_add _
    generalize hF0d : (fun s => manyP rows fm s) = F0
    have hF : ∀ s, 0 ≤ F0 s ∧ F0 s ≤ 2 := fun s => by rw [← hF0d]; exact hF s
    refine dss_disp1 (i := 3) (kx := vec F0) (y := ()) (hu64 hr) keV veT (fun a => ?_) (fun a => de_bl) (fun af haf => ?_) sc__law_given_out.nd
    · refine de_eq (de_callTy call_tuple_of (rc_tupleL (ds := (vec F0).map .int)) Y.tuple bt_tuple (da_cons (de_eq (de_lcD (xs := shadesL) [("_law_shade", 11)] [11] (fun s => [isS s]) (fun _ => true) (fun s => .int (F0 s)) sc__law_given_out.nd (di_list (f := PyData.str) (hp1 := [⟨a, oRaw (.dT [])⟩]) (de_callP0 c3 hr (by omega) () trivial rfl)) (by show blkC N__law_given_out (defScope s__law_given_out) _ _ = true; decide +kernel) (fun s _ s' H C cl fp => dg_name 11 sc__law_given_out.nd rfl (Or.inl rfl)) (fun s _ s' H C cl fp => dts_nil)
        (fun s _ _ s' H C cl fp => de_eq (de_get2T (A := isO (oT kP .int (stk rows))) (d := stk rows) (x := (fm, s)) (z := 0) kP_inj (hu64 hr) acc_fr (de_var 0 rfl) (de_tup (ds := [.str fm, .str s]) (da_cons (de_var 2 rfl) (da_cons (de_var 11 rfl) da_nil))) de_int) ?_) (by decide)) ?_) da_nil)) (eKey_keV _).symm
      · rw [← hF0d]; exact congrArg PyData.int (hstk s)
      · rw [List.filter_eq_self.mpr fun _ _ => rfl]
        unfold vec
        rw [List.map_map]; rfl
    have hV0 : VInv F0 [] [(vec F0, ())] := ⟨by simp [keys], fun v => by
      constructor
      · intro h
        exact ⟨F0, .nil, List.mem_singleton.mp h⟩
      · rintro ⟨F, hR, rfl⟩
        rw [hR.inv_nil]
        exact List.mem_singleton.mpr rfl⟩
    refine dss_for (di_tup (f := eWant) (xs := ws) (hp1 := [⟨af, oT keV veT [(vec F0, ())]⟩]) (de_var 1 rfl)) [4, 5, 6] (fun w => [isS w.f, isD (.tuple (w.sh.map .str)), isI w.n]) (fun w _ => dg_tup3 rfl (fun A => dg_name 4 sc__law_given_out.nd rfl (Or.inl rfl)) (fun A => dg_name 5 sc__law_given_out.nd rfl (Or.inl rfl)) (fun A => dg_name 6 sc__law_given_out.nd rfl (Or.inl rfl)))
      (fun i s h => ∃ (af : Addr) (d : DV), VInv F0 (unitsOf fm (ws.take i)) d ∧ s = goSl rows ws (some (isS fm)) (some (isV (.ref af))) none none none none none none none none ∧ h = [⟨af, oT keV veT d⟩])
      ⟨af, _, hV0, rfl, rfl⟩ ?_ ?_
    · rintro i wt s h hwt ⟨af, d, V, rfl, rfl⟩
      have ow := okw.w wt (List.mem_of_getElem? hwt)
      have hun : unitsOf fm (ws.take (i + 1)) = unitsOf fm (ws.take i) ++ (if wt.f = fm then List.replicate wt.n.toNat wt.sh else []) := flatMap_take hwt
      generalize unitsOf fm (ws.take i) = L at V hun
      rw [hun]
      generalize hn : (if wt.f = fm then wt.n.toNat else 0) = n
      have hrep : (if wt.f = fm then List.replicate wt.n.toNat wt.sh else []) = List.replicate n wt.sh := by
        rw [← hn]
        by_cases q : wt.f = fm
        · rw [if_pos q, if_pos q]
        · rw [if_neg q, if_neg q]; rfl
      rw [hrep]
      have hn2 : n ≤ 2 := by
        have := ow.n2
        rw [← hn]; split <;> omega
      refine dss_for (di_range1 (n := n) (hp1 := [⟨af, oT keV veT d⟩]) Y.range (da_cons (de_eq (de_op op_mul (re_I ?_) (de_var 6 rfl) (de_callTy call_int1 rc_intB Y.int bt_int (da_cons (de_cmp op_eq re_eqS (de_var 4 rfl) (de_var 2 rfl)) da_nil))) ?_) da_nil) (by omega)) [7] (fun j => [isI ((j : Nat) : Int)]) (fun j _ => dg_name 7 sc__law_given_out.nd rfl (Or.inl rfl))
        (fun k s h => ∃ (af : Addr) (d : DV), VInv F0 (L ++ List.replicate k wt.sh) d ∧ s = goSl rows ws (some (isS fm)) (some (isV (.ref af))) (some (isS wt.f)) (some (isD (.tuple (wt.sh.map .str)))) (some (isI wt.n)) none none none none none ∧ h = [⟨af, oT keV veT d⟩])
        ⟨af, d, by rw [List.replicate_zero, List.append_nil]; exact V, rfl, rfl⟩ ?_ ?_
      · exact .inl ⟨by have := ow.n1; omega, by have := ow.n2; omega⟩
      · rw [← hn]
        have h1 := ow.n1
        by_cases q : wt.f = fm
        · rw [if_pos q, decide_eq_true q]
          refine congrArg PyData.int ?_
          show wt.n * 1 = _
          omega
        · rw [if_neg q, decide_eq_false q]
          refine congrArg PyData.int ?_
          show wt.n * 0 = _
          omega
      · rintro k k' s h hk ⟨af, d, V, rfl, rfl⟩
        have hR := V.range hF
        generalize hLk : L ++ List.replicate k wt.sh = Lk at V
        refine dss_newT (i := 8) keV veT (fun ag hag => ?_) sc__law_given_out.nd
        refine dss_lock (mo := oT keV veT d) (M := fun s h => ∃ g : DV, VInv F0 (Lk ++ [wt.sh]) g ∧ s = goSl rows ws (some (isS fm)) (some (isV (.ref af))) (some (isS wt.f)) (some (isD (.tuple (wt.sh.map .str)))) (some (isI wt.n)) (some (isI (k' : Int))) (some (isV (.ref ag))) none none none ∧ h = [⟨af, oT keV veT d⟩, ⟨ag, oT keV veT g⟩]) 0 rfl oT_mut (fun od u => ?_) fun s h ⟨g, hg, e1, e2⟩ => ?_
        · refine ds_for (di_keysT (d := d) (ke := keV) (ve := veT) (hp := [⟨af, oFz od u (oT keV veT d)⟩, ⟨ag, oT keV veT []⟩]) 0 rfl (de_var 3 rfl)) [9] (fun r => [isD (eKey (keV r))]) (fun r _ => dg_name 9 sc__law_given_out.nd rfl (Or.inl rfl))
            (fun i s h => ∃ g : DV, ((keys g).Nodup ∧ (∀ v ∈ keys g, v.length = 4 ∧ ∀ x ∈ v, 0 ≤ x ∧ x ≤ 2) ∧ ∀ v, v ∈ keys g ↔ ∃ r ∈ (keys d).take i, ∃ a, stp wt.sh r v a) ∧ s = goSl rows ws (some (isS fm)) (some (isV (.ref af))) (some (isS wt.f)) (some (isD (.tuple (wt.sh.map .str)))) (some (isI wt.n)) (some (isI (k' : Int))) (some (isV (.ref ag))) none none none ∧ h = [⟨af, oFz od u (oT keV veT d)⟩, ⟨ag, oT keV veT g⟩])
            ⟨[], ⟨List.nodup_nil, (fun v h => by cases h), fun v => ⟨fun h => by (cases h), fun ⟨r, hr, _⟩ => by (cases hr)⟩⟩, rfl, rfl⟩ ?_ ?_ (hF := fun i s h ⟨g, _, _, e⟩ => by rw [e]; exact hdc_fz 0 rfl)
          · rintro i r s h hr' ⟨g, ⟨gn, gr, gi⟩, rfl, rfl⟩
            have hrk : r ∈ keys d := List.mem_of_getElem? hr'
            have hrr := hR r hrk
            have htk : (keys d).take (i + 1) = (keys d).take i ++ [r] := by rw [List.take_add_one, hr']; rfl
            refine dss_for (di_enumL (xs := shadesL.map .str) (hp1 := [⟨af, oFz od u (oT keV veT d)⟩, ⟨ag, oT keV veT g⟩]) Y.enumerate (de_callP0 c3 hr (by omega) () trivial rfl)) [10, 11] (fun q => [isI ((q.2 : Nat) : Int), isD q.1]) (fun q _ => dg_tup2 rfl (fun A => dg_name 10 sc__law_given_out.nd rfl (Or.inl rfl)) (fun A => dg_name 11 sc__law_given_out.nd rfl (Or.inl rfl)))
              (fun j s h => ∃ g : DV, ((keys g).Nodup ∧ (∀ v ∈ keys g, v.length = 4 ∧ ∀ x ∈ v, 0 ≤ x ∧ x ≤ 2) ∧ ∀ v, v ∈ keys g ↔ (∃ r ∈ (keys d).take i, ∃ a, stp wt.sh r v a) ∨ ∃ a, a < j ∧ stp wt.sh r v a) ∧ s = goSl rows ws (some (isS fm)) (some (isV (.ref af))) (some (isS wt.f)) (some (isD (.tuple (wt.sh.map .str)))) (some (isI wt.n)) (some (isI (k' : Int))) (some (isV (.ref ag))) (some (isD (eKey (keV r)))) none none ∧ h = [⟨af, oFz od u (oT keV veT d)⟩, ⟨ag, oT keV veT g⟩])
              ⟨g, ⟨gn, gr, fun v => (gi v).trans ⟨.inl, fun h => h.elim id fun ⟨a, ha, _⟩ => absurd ha (Nat.not_lt_zero a)⟩⟩, rfl, rfl⟩ ?_ ?_
            · rintro j ⟨ds, j'⟩ s h hj ⟨g, ⟨gn, gr, gi⟩, rfl, rfl⟩
              obtain ⟨e1, e2⟩ := enum_at hj
              have e1 : j' = j := e1
              subst e1
              have e2 : (shadesL.map PyData.str)[j']? = some ds := e2
              rw [List.getElem?_map] at e2
              obtain ⟨sd, hsd⟩ : ∃ sd, shadesL[j']? = some sd := by
                cases q : shadesL[j']? with
                | none => rw [q] at e2; cases e2
                | some sd => exact ⟨sd, rfl⟩
              rw [hsd] at e2
              have e2 : PyData.str sd = ds := Option.some.inj e2
              subst e2
              have hj4 : j' < r.length := by
                have := (List.getElem?_eq_some_iff.mp hsd).1
                rw [hrr.1]; exact this
              obtain ⟨x, hx⟩ : ∃ x, r[j']? = some x := ⟨_, List.getElem?_eq_getElem hj4⟩
              have hxr := hrr.2 x (List.mem_of_getElem? hx)
              have hixr : atI (r.map PyData.int) (j' : Int) = some (.int x) := atI_nat' (by rw [List.getElem?_map, hx]; rfl)
              have hkey : eKey (keV r) = .tuple (r.map .int) := eKey_keV r
              rw [hkey]
              refine dss_when (b := decide (0 < x) && (wt.sh.isEmpty || decide (sd ∈ wt.sh))) (M := fun s h => ∃ g : DV, ((keys g).Nodup ∧ (∀ v ∈ keys g, v.length = 4 ∧ ∀ x ∈ v, 0 ≤ x ∧ x ≤ 2) ∧ ∀ v, v ∈ keys g ↔ (∃ r ∈ (keys d).take i, ∃ a, stp wt.sh r v a) ∨ ∃ a, a < j' + 1 ∧ stp wt.sh r v a) ∧ s = goSl rows ws (some (isS fm)) (some (isV (.ref af))) (some (isS wt.f)) (some (isD (.tuple (wt.sh.map .str)))) (some (isI wt.n)) (some (isI (k' : Int))) (some (isV (.ref ag))) (some (isD (.tuple (r.map .int)))) (some (isI (j' : Int))) (some (isS sd)) ∧ h = [⟨af, oFz od u (oT keV veT d)⟩, ⟨ag, oT keV veT g⟩])
                (dt_w (dw_and (dt_cmp op_gt re_B0 (de_ixT hixr (de_var 9 rfl) (de_var 10 rfl)) de_int) fun _ => dw_and1 (dt_w (dw_or (dt_eq (dt_cmp (op_eqD (hu64 hr)) (re_eqD (d := .tuple (wt.sh.map .str)) (e := .tuple []) (shaped_strs fun s hs => ow.sh.subset hs) rfl) (de_var 5 rfl) (de_tup (ds := []) da_nil)) (by rw [eqv_nil]; simp)) fun _ => dw_or1 (dt_eq (dt_cmp op_in_seq (re_in (d := .str sd) (ds := wt.sh.map .str) (neg := false) rfl flat_strs) (de_var 11 rfl) (de_var 5 rfl)) (by rw [if_neg (by decide), inD_str])))))) (fun hb => ?_) (fun hb => ?_) fun s h ⟨g, h1, e1, e2⟩ => ?_
              · obtain ⟨hb1, hb2⟩ := Bool.and_eq_true_iff.mp hb
                have hx0 : 0 < x := of_decide_eq_true hb1
                have hok : okSh wt.sh sd := by
                  rcases Bool.or_eq_true_iff.mp hb2 with h | h
                  · exact .inl (List.isEmpty_iff.mp h)
                  · exact .inr (of_decide_eq_true h)
                have hst : stp wt.sh r (r.set j' (x - 1)) j' := ⟨sd, hsd, hok, x, hx, hx0, rfl⟩
                have hcut := cut_set (g := PyData.int) (l := r) (k := j') (x := x - 1) hj4
                have hlen := congrArg List.length hcut
                rw [List.length_append, List.length_map, List.length_set, hrr.1] at hlen
                have hsz1 : (cutD (r.map PyData.int) none (some (j' : Int)) ++ [PyData.int (x - 1)]).length + (cutD (r.map PyData.int) (some ((j' + 1 : Nat) : Int)) none).length ≤ sizeLine := Nat.le_trans (m := 4) (by omega) (by decide)
                have hsz2 : (cutD (r.map PyData.int) none (some (j' : Int))).length + [PyData.int (x - 1)].length ≤ sizeLine := Nat.le_trans (m := 4) (by rw [List.length_append] at hlen; omega) (by decide)
                have hgl := dv_len gn gr
                refine dss_putT (x := r.set j' (x - 1)) (y := ()) (hp1 := [⟨af, oFz od u (oT keV veT d)⟩, ⟨ag, oT keV veT g⟩]) 1 keV_inj (hu64 hr) de_bl (de_var 8 rfl) (de_eq (de_op op_catA (re_catT (ds := cutD (r.map .int) none (some (j' : Int)) ++ [.int (x - 1)]) (es := cutD (r.map .int) (some ((j' + 1 : Nat) : Int)) none) hsz1) (de_op op_catA (re_catT (ds := cutD (r.map .int) none (some (j' : Int))) (es := [.int (x - 1)]) hsz2) (de_sliceT (de_var 9 rfl) do_none (do_some (de_var 10 rfl))) (de_tup (ds := [.int (x - 1)]) (da_cons (de_op op_sub re_I0 (de_ixT hixr (de_var 9 rfl) (de_var 10 rfl)) de_int) da_nil))) (de_sliceT (de_var 9 rfl) (do_some (de_op op_add re_I0 (de_var 10 rfl) de_int)) do_none)) (by rw [hcut, eKey_keV])) rfl (by omega) ?_
                refine dss_nil (Wk.refl _) ⟨aput g (r.set j' (x - 1)) (), ⟨PM.nodup_aput gn, fun v hv => ?_, fun v => ?_⟩, rfl, rfl⟩
                · rcases keys_put_mem.mp hv with hv | rfl
                  · exact gr v hv
                  · exact stp_range hst hrr
                · rw [keys_put_mem, gi v]
                  constructor
                  · rintro ((h | ⟨a, ha, hs⟩) | rfl)
                    · exact .inl h
                    · exact .inr ⟨a, by omega, hs⟩
                    · exact .inr ⟨j', by omega, hst⟩
                  · rintro (h | ⟨a, ha, hs⟩)
                    · exact .inl (.inl h)
                    · by_cases e : a = j'
                      · subst e
                        obtain ⟨s1, q1, q2, x1, q3, q4, q5⟩ := hs
                        rw [hx] at q3
                        cases q3
                        exact .inr q5
                      · exact .inl (.inr ⟨a, by omega, hs⟩)
              · refine ⟨g, ⟨gn, gr, fun v => ?_⟩, rfl, rfl⟩
                rw [gi v]
                constructor
                · rintro (h | ⟨a, ha, hs⟩)
                  · exact .inl h
                  · exact .inr ⟨a, by omega, hs⟩
                · rintro (h | ⟨a, ha, hs⟩)
                  · exact .inl h
                  · by_cases e : a = j'
                    · subst e
                      exfalso
                      obtain ⟨s1, q1, q2, x1, q3, q4, q5⟩ := hs
                      rw [hx] at q3
                      cases q3
                      rw [hsd] at q1
                      cases q1
                      rw [decide_eq_true q4, Bool.true_and] at hb
                      rcases q2 with q2 | q2
                      · rw [q2] at hb; cases hb
                      · rw [decide_eq_true q2, Bool.or_true] at hb; cases hb
                    · exact .inr ⟨a, by omega, hs⟩
              · subst e1 e2
                exact dss_nil (wk_mask [true, true, true, true, true, true, true, true, true, true, false, false] _) ⟨g, h1, rfl, rfl⟩
            · rintro s h ⟨g, ⟨gn, gr, gi⟩, rfl, rfl⟩
              have hl4 : ((shadesL.map PyData.str).zip (List.range (shadesL.map PyData.str).length)).length = 4 := by rfl
              rw [hl4] at gi
              refine dss_nil (wk_mask [true, true, true, true, true, true, true, true, true, false, false, false] _) ⟨g, ⟨gn, gr, fun v => ?_⟩, rfl, rfl⟩
              rw [gi v, htk]
              constructor
              · rintro (⟨r', hr1, h⟩ | ⟨a, _, h⟩)
                · exact ⟨r', List.mem_append_left _ hr1, h⟩
                · exact ⟨r, by simp, a, h⟩
              · rintro ⟨r', hr1, a, h⟩
                rcases List.mem_append.mp hr1 with hr1 | hr1
                · exact .inl ⟨r', hr1, a, h⟩
                · rw [List.mem_singleton.mp hr1] at h
                  refine .inr ⟨a, ?_, h⟩
                  obtain ⟨s1, q1, _⟩ := h
                  exact (List.getElem?_eq_some_iff.mp q1).1
          · rintro s h ⟨g, ⟨gn, gr, gi⟩, rfl, rfl⟩
            rw [List.take_length] at gi
            exact ⟨[⟨af, oT keV veT d⟩, ⟨ag, oT keV veT g⟩], rfl, rfl, g, V.next gn gi, rfl, rfl⟩
        · subst e1 e2
          refine dss_set (i := 3) (hp1 := [⟨af, oT keV veT d⟩, ⟨ag, oT keV veT g⟩]) (de_var 8 rfl) ?_ sc__law_given_out.nd
          refine dss_perm (hp' := [⟨ag, oT keV veT g⟩] ++ [⟨af, oT keV veT d⟩]) (List.Perm.swap _ _ _) ?_
          refine dss_drop (hp := [⟨ag, oT keV veT g⟩]) (hp2 := [⟨af, oT keV veT d⟩]) ?_
          refine dss_nil (wk_mask [true, true, true, true, true, true, true, false, false, false, false, false] _) ⟨ag, g, ?_, rfl, rfl⟩
          rw [List.replicate_succ', ← List.append_assoc, hLk]
          exact hg
      · rintro s h ⟨af, d, V, rfl, rfl⟩
        rw [List.length_range] at V
        exact dss_nil (wk_mask [true, true, true, true, false, false, false, false, false, false, false, false] _) ⟨af, d, V, rfl, rfl⟩
    · rintro s h ⟨af, d, V, rfl, rfl⟩
      rw [List.take_length] at V
      refine dss_ifr (b := d.isEmpty) (dt_eq (dt_cmp op_eq (re_eqI (i := (d.length : Int)) (j := 0)) (de_lenT 0 rfl Y.len bt_len (de_var 3 rfl)) de_int) ?_) (fun hb => ?_) (fun hb => ?_)
      · cases d with
        | nil => rfl
        | cons a d => exact decide_eq_false (by rw [List.length_cons]; omega)
      · have hd : d = [] := List.isEmpty_iff.mp hb
        subst hd
        refine dss_ret (A := isB false) (hp1 := []) (de_drop (hp1 := []) (hp2 := [⟨af, oT keV veT []⟩]) de_bl) fun v B h => ⟨rfl, false, ⟨fun z => (by cases z), fun G => ?_⟩, h⟩
        obtain ⟨F, hR⟩ := G fm (List.mem_of_getElem? hfm)
        rw [hF0d] at hR
        have := (V.iff (vec F)).mpr ⟨F, hR, rfl⟩
        cases this
      · refine dss_drop (hp := []) (hp2 := [⟨af, oT keV veT d⟩]) ?_
        refine dss_nil (wk_mask [true, true, false, false, false, false, false, false, false, false, false, false] _) ⟨fun g hg => ?_, rfl, rfl⟩
        rw [List.take_add_one, hfm] at hg
        rcases List.mem_append.mp hg with hg | hg
        · exact hdone g hg
        · have : g = fm := by simpa using hg
          subst this
          cases d with
          | nil => cases hb
          | cons a d =>
            obtain ⟨F, hR, _⟩ := (V.iff a.1).mp (List.mem_cons_self ..)
            exact ⟨F, by rw [hF0d]; exact hR⟩
  · rintro s h ⟨hdone, rfl, rfl⟩
    rw [List.take_length] at hdone
    exact dss_ret (A := isB true) (hp1 := []) de_bl fun v B h => ⟨rfl, true, ⟨fun _ => hdone, fun _ => rfl⟩, h⟩
end
end PK
end
section
set_option Elab.async false
set_option linter.all false
set_option maxRecDepth 100000
set_option maxHeartbeats 8000000
namespace PK
open PySem PySem.Spec PyProof.Rows L2
open PM (Want manyP manyF ls letsL aget aput keys dg)
theorem taken_sub : ∀ {sheet : Sh} {tk : List (Option Nat)} {cs : List Nat}, tk.length = cs.length → (∀ (k i : Nat), tk[k]? = some (some i) → cs[k]? = some i) → (takenW sheet tk).Sublist (chosenW sheet cs)
  | [], tk, cs, _, _ => by simp [takenW]
  | ways :: sheet, [], cs, _, _ => by simp [takenW]
  | ways :: sheet, o :: tk, [], h, _ => by simp at h
  | ways :: sheet, o :: tk, c :: cs, h, hk => by
    have ih := taken_sub (sheet := sheet) (tk := tk) (cs := cs) (by simpa using h) fun k i hi => by
      have := hk (k + 1) i (by simpa using hi)
      simpa using this
    unfold takenW chosenW at ih ⊢
    rw [List.zip_cons_cons, List.zip_cons_cons, List.flatMap_cons, List.flatMap_cons]
    refine List.Sublist.append ?_ ih
    cases o with
    | none => exact List.nil_sublist _
    | some i =>
      have := hk 0 i rfl
      have e : c = i := by simpa using this
      subst e
      exact List.Sublist.refl _
theorem tree_no {rows : Rws} {sheet : Sh} {tk : List (Option Nat)} {t : PyData} (h : TreeOk rows sheet tk t) : ∀ {cs : List Nat}, OkC sheet cs → tk.length = cs.length → (∀ (k i : Nat), tk[k]? = some (some i) → cs[k]? = some i) → ∃ ws f o, IsBar rows ws f o ∧ ws.Sublist (chosenW sheet cs) := by
  induction h with
  | bar hb => exact fun _ hl hk => ⟨_, _, _, hb, taken_sub hl hk⟩
  | @row tk k ways ts hk hw hlen hT ih =>
    intro cs oc hl hcs
    have hkl : k < cs.length := by rw [← hl]; exact (List.getElem?_eq_some_iff.mp hk).1
    have hck : cs[k]? = some cs[k] := List.getElem?_eq_getElem hkl
    have hi := oc.at_ k ways _ hw hck
    have ht : ts[cs[k]]? = some (ts[cs[k]]'(by rw [hlen]; exact hi)) := List.getElem?_eq_getElem _
    refine ih _ _ ht oc (by rw [List.length_set]; exact hl) fun j i hj => ?_
    by_cases e : k = j
    · subst e
      rw [List.getElem?_set_self (by rw [hl]; exact hkl)] at hj
      cases hj
      exact hck
    · rw [List.getElem?_set_ne e] at hj
      exact hcs j i hj
theorem begun_ext {sheet : Sh} {cs : List Nat} (ok : OkS sheet) (oc : OkC sheet cs) : (begunL sheet).length = cs.length ∧ ∀ (k i : Nat), (begunL sheet)[k]? = some (some i) → cs[k]? = some i := by
  refine ⟨by rw [(begunOk ok).len, oc.len], fun k i h => ?_⟩
  unfold begunL at h
  rw [List.getElem?_map] at h
  cases q : sheet[k]? with
  | none => rw [q] at h; cases h
  | some ways =>
    rw [q] at h
    have h : some (if ways.length = 1 then some 0 else none) = some (some i) := h
    by_cases e : ways.length = 1
    · rw [if_pos e] at h
      cases h
      have hkl : k < cs.length := by rw [oc.len]; exact (List.getElem?_eq_some_iff.mp q).1
      have hck : cs[k]? = some cs[k] := List.getElem?_eq_getElem hkl
      have := oc.at_ k ways _ q hck
      rw [hck]
      congr 1
      omega
    · rw [if_neg e] at h; cases h
theorem given_heap {rows : Rws} {ws : List Wt} : GivenOut (heapRows rows) ws ↔ GivenOut rows ws := by
  have e : ∀ f, (fun s => manyP (heapRows rows) f s) = fun s => manyP rows f s := fun f => funext fun s => heap_many rows f s
  unfold GivenOut
  constructor
  · intro h f hf
    have := h f hf
    rw [e f] at this
    exact this
  · intro h f hf
    rw [e f]
    exact h f hf
/-- found or not: as it can be given out -/
theorem search_law {rows : Rws} {sheet : Sh} {r : SRes} (okr : OkR rows) (oks : OkS sheet) (h : SearchEnd (heapRows rows) sheet (begunL sheet) r) : match r with
    | .inl q => OkC sheet q.1 ∧ GivenOut rows (chosenW sheet q.1)
    | .inr _ => ∀ cs, OkC sheet cs → ¬ GivenOut rows (chosenW sheet cs) := by
  cases h with
  | found h1 h2 h3 => exact ⟨h1, given_heap.mp (given_of h2 h3)⟩
  | tree h =>
    intro cs oc G
    obtain ⟨e1, e2⟩ := begun_ext oks oc
    obtain ⟨ws, f, o, hb, hs⟩ := tree_no h oc e1 e2
    exact not_given (heap_ok okr) hb hs (fun w hw => by have := ((chosenW_ok oks oc).w w hw).n1; omega) (given_heap.mpr G)
end PK
end
section
set_option Elab.async false
set_option linter.all false
set_option maxRecDepth 100000
set_option maxHeartbeats 8000000
namespace PK
open PySem PySem.Spec PyProof.Rows L2
open PM (Want manyP manyF ls letsL aget aput keys dg)
theorem re_inDL {K : PySem.W.Frag} {d : PyData} {ds : List PyData} (hd : SeqAt.shaped d = true) (hs : SeqAt.shaped (.list ds) = true) : RE (rInD K) (isD d) (isD (.list ds)) (isB (ds.any fun z => PyData.eqv z d)) := fun Z B H hp v w Q S hx hy k =>
  ⟨d, ds, Rp.dp S.bh hx, Rp.dp S.bh hy, hd, hs, k _ B H (Same.refl B) S (.bl _)⟩
theorem re_isNotB {a b : Bool} : RE (fun x y H Q => ∃ a b, x = .bl a ∧ y = .bl b ∧ Q (.bl (!decide (a = b))) H) (isB a) (isB b) (isB (!decide (a = b))) := fun Z B H hp v w Q S hx hy k => by
  cases hx; cases hy
  exact ⟨a, b, rfl, rfl, k _ B H (Same.refl B) S (.bl _)⟩
theorem eChL_shaped (cs : List (List Nat)) : SeqAt.shaped (.list (cs.map eCh)) = true := by
  unfold SeqAt.shaped
  rw [Bool.and_eq_true]
  refine ⟨canLay_of fun t ht => ?_, decide_eq_true ?_⟩
  · obtain ⟨c, _, rfl⟩ := List.mem_map.mp ht
    exact canLay_nats' c
  · have : PyData.depthAll (cs.map eCh) ≤ 1 := depth_of fun t ht => by
      obtain ⟨c, _, rfl⟩ := List.mem_map.mp ht
      exact eCh_depth c
    show PyData.depthAll (cs.map eCh) + 1 ≤ 64
    omega
def bW : SRes → PyData
  | .inl _ => .str "dealt"
  | .inr _ => .str "cases"
def bT : SRes → PyData
  | .inl q => eFound q
  | .inr t => t
theorem eBuild_eq (r : SRes) : eBuild r = .tuple [bW r, bT r] := by cases r <;> rfl
section
variable {P : Program} {w : World} {K : PySem.W.Frag} {mg : Str → Option Value} {base : Heap} {f : Addr} {fd : FuncData}
abbrev spBuild (K : PySem.W.Frag) : Sp := spP (γ := Rws × Sh) (fun y => [isHeap (HC K) y.1, isD (eSheet y.2)]) (fun y => OkR y.1 ∧ OkS y.2) (fun y => exA fun r => andA (SearchEnd y.1 y.2 (begunL y.2) r) (isD (eBuild r)))
abbrev spLaw (K : PySem.W.Frag) : Sp := spP (γ := List Int) (fun y => [isScr K y]) (fun y => y.length ≤ 63) (fun _ => isB true)
theorem ok_law (Y : Bi mg) (c1 : C8.Cal P w K mg base 1 "_law_tape" (spTape K) []) (c2 : C8.Cal P w K mg base 3 "_law_rows" spLRows []) (c3 : C8.Mak P w K mg base 2 "Heap" (HC K) (spInit K) []) (c4 : C8.Cal P w K mg base 1 "_law_stock" spStock []) (c5 : C8.Cal P w K mg base 1 "_law_pick" spPick [])
    (c6 : C8.Cal P w K mg base 5 "_law_sheet" spSheet []) (c7 : C8.Cal P w K mg base 1 "_law_choices" spLawChoices []) (c8 : C8.Cal P w K mg base 1 "_law_wants" spLawWants []) (c9 : C8.Cal P w K mg base 2 "_law_given_out" spGivenOut [])
    (d1 : C8.Cal P w K mg base 14 "build" (spBuild K) []) (d2 : C8.Cal P w K mg base 6 "is_dealing" (spIsDealing K) []) (d3 : C8.Cal P w K mg base 13 "lets_cases" (spLetsCases K) []) (F : FnD K d_law f fd) : FnOk P w K mg base CX0 15 f fd ["_law_script"] (spLaw K) := by
  refine ok_ds F sc_law _ _ _ _ (fun _ => rfl) fun y hy cdv A outer s H E hr => ?_
  have hy : y.length ≤ 63 := hy
  refine dss_setX (α := Addr) (As := fun a => isV (.ref a)) (Cs := fun a => tapeC a) (i := 1) (dx_call0 c1 hr (by omega) y hy (da_cons (de_var 0 rfl) da_nil)) (fun v B hp' h => by obtain ⟨a, h1, h2⟩ := h; exact ⟨a, h1, h2⟩) (fun a => ?_) sc_law.nd
  refine dss_set (i := 2) (A := exD OkR eRows) (hp1 := tapeC a) (de_call (A := exD OkR eRows) (hq := tapeC a) (fr := []) c2 hr (by omega) (a, ()) trivial (da_cons (de_var 1 rfl) (da_cons de_int da_nil)) (fun B vs h => by rw [List.append_nil]; exact h) (fun v B hp' h => by exact ⟨h.2, h.1⟩)) ?_ sc_law.nd
  refine dss_open 2 rfl fun rows => dss_and 2 rfl fun okr => ?_
  have okr : OkR rows := okr
  have okh := heap_ok okr
  have hlen := okr.len'
  refine dss_par (i := 3) (j := 4) (A1 := isHeap (HC K) (heapRows rows)) (A2 := isO (oT kP .int (stk rows))) (hp1 := tapeC a) (da_cons (de_heap c3 hr (by omega) hlen (de_var 2 rfl)) (da_cons (de_callP c4 hr (by omega) rows hlen (da_cons (de_var 2 rfl) da_nil)) da_nil)) ?_ sc_law.nd (by decide)
  refine dss_set (i := 5) (A := exD OkS eSheet) (hp1 := tapeC a) (de_call (A := exD OkS eSheet) (hq := tapeC a) (fr := []) c6 hr (by omega) (a, ()) trivial (da_cons (de_var 1 rfl) (da_cons (de_pick (m := 4) (fr := []) c5 hr (by omega) (by decide) (de_var 1 rfl) de_int) (da_cons de_int (da_cons de_int da_nil)))) (fun B vs h => by rw [List.append_nil]; exact h) (fun v B hp' h => by exact ⟨h.2, h.1⟩)) ?_ sc_law.nd
  refine dss_open 5 rfl fun sheet => dss_and 5 rfl fun oks => ?_
  have oks : OkS sheet := oks
  refine dss_drop (hp := []) (hp2 := tapeC a) ?_
  refine dss_newL (i := 6) (fun as has => ?_) sc_law.nd
  have hch : (chL sheet).length ≤ 27 := by have := chL_take oks sheet.length; rw [List.take_length] at this; exact this
  refine dss_for (di_list (f := eCh) (xs := chL sheet) (hp1 := [⟨as, oL []⟩]) (de_callP c7 hr (by omega) sheet oks (da_cons (de_var 5 rfl) da_nil))) [7] (fun c => [isD (eCh c)]) (fun c _ => dg_name 7 sc_law.nd rfl (Or.inl rfl))
    (fun i s h => ∃ sm : List (List Nat), ((∀ c, c ∈ sm ↔ c ∈ (chL sheet).take i ∧ GivenOut rows (chosenW sheet c)) ∧ sm.length ≤ i) ∧ s = [some (isScr K y), some (isV (.ref a)), some (isD (eRows rows)), some (isHeap (HC K) (heapRows rows)), some (isO (oT kP .int (stk rows))), some (isD (eSheet sheet)), some (isV (.ref as)), none, none, none] ∧ h = [⟨as, oL (sm.map eCh)⟩])
    ⟨[], ⟨fun c => by simp, Nat.le_refl _⟩, rfl, rfl⟩ ?_ ?_
  · rintro i c s h hi ⟨sm, ⟨hsm, hsl⟩, rfl, rfl⟩
    have hil := (List.getElem?_eq_some_iff.mp hi).1
    have oc : OkC sheet c := (mem_chL _ sheet rfl c).mp (List.mem_of_getElem? hi)
    have htk : (chL sheet).take (i + 1) = (chL sheet).take i ++ [c] := by rw [List.take_add_one, hi]; rfl
    have dG : Decidable (GivenOut rows (chosenW sheet c)) := Classical.propDecidable _
    refine dss_when (M := fun s h => ∃ sm : List (List Nat), ((∀ c, c ∈ sm ↔ c ∈ (chL sheet).take (i + 1) ∧ GivenOut rows (chosenW sheet c)) ∧ sm.length ≤ i + 1) ∧ s = [some (isScr K y), some (isV (.ref a)), some (isD (eRows rows)), some (isHeap (HC K) (heapRows rows)), some (isO (oT kP .int (stk rows))), some (isD (eSheet sheet)), some (isV (.ref as)), some (isD (eCh c)), none, none] ∧ h = [⟨as, oL (sm.map eCh)⟩]) (b := decide (GivenOut rows (chosenW sheet c))) (hp1 := [⟨as, oL (sm.map eCh)⟩])
      (dt_val (de_is (de_callP c9 hr (by omega) (rows, chosenW sheet c) ⟨okr, chosenW_ok oks oc⟩ (da_cons (de_var 4 rfl) (da_cons (de_callP c8 hr (by omega) (sheet, c) ⟨oks, oc⟩ (da_cons (de_var 5 rfl) (da_cons (de_var 7 rfl) da_nil))) da_nil))) ?_)) (fun hb => ?_) (fun hb => ?_) ?_
    · rintro v B ⟨b, hb, hv⟩
      have e : b = decide (GivenOut rows (chosenW sheet c)) := by
        by_cases g : GivenOut rows (chosenW sheet c)
        · rw [decide_eq_true g]; exact hb.mpr g
        · rw [decide_eq_false g]
          cases b with
          | false => rfl
          | true => exact absurd (hb.mp rfl) g
      rw [← e]; exact hv
    · have g : GivenOut rows (chosenW sheet c) := of_decide_eq_true hb
      refine dss_append (a := as) (ds := sm.map eCh) (d := eCh c) 0 (de_var 6 rfl) (de_var 7 rfl) rfl (by rw [List.length_map]; omega) (dss_nil (Wk.refl _) ⟨sm ++ [c], ⟨fun d => ?_, by rw [List.length_append]; simp; omega⟩, rfl, ?_⟩) rfl rfl
        (pe_bm PySem.F.plainAttrs_list PySem.F.slot_list_append PySem.F.type_list_append mt_append (de_var 6 rfl) (pa_cons (de_var 7 rfl) pa_nil))
      · rw [htk, List.mem_append, List.mem_append, hsm d, List.mem_singleton]
        constructor
        · rintro (h | rfl)
          · exact ⟨.inl h.1, h.2⟩
          · exact ⟨.inr rfl, g⟩
        · rintro ⟨h | rfl, h2⟩
          · exact .inl ⟨h, h2⟩
          · exact .inr rfl
      · rw [List.map_append]; rfl
    · have g : ¬ GivenOut rows (chosenW sheet c) := of_decide_eq_false hb
      refine ⟨sm, ⟨fun d => ?_, by omega⟩, rfl, rfl⟩
      rw [htk, List.mem_append, hsm d, List.mem_singleton]
      constructor
      · rintro h
        exact ⟨.inl h.1, h.2⟩
      · rintro ⟨h | rfl, h2⟩
        · exact ⟨h, h2⟩
        · exact absurd h2 g
    · rintro s h ⟨sm, h1, rfl, rfl⟩
      exact dss_nil (wk_mask [true, true, true, true, true, true, true, false, false, false] _) ⟨sm, h1, rfl, rfl⟩
  · rintro s h ⟨sm, ⟨hsm, hsl⟩, rfl, rfl⟩
    rw [List.take_length] at hsm
    refine dss_freeze (hp := []) (hp' := []) 6 rfl has ?_
    refine dss_unp (α := { r // SearchEnd (heapRows rows) sheet (begunL sheet) r }) (As := fun r => [isD (bW r.1), isD (bT r.1)]) (Cs := fun _ => []) (js := [8, 9]) (dx_of (A := (exA fun r => andA (SearchEnd (heapRows rows) sheet (begunL sheet) r) (isD (eBuild r)))) (hp1 := []) (de_callP d1 hr (by omega) (heapRows rows, sheet) ⟨okh, oks⟩ (da_cons (de_var 3 rfl) (da_cons (de_var 5 rfl) da_nil))))
      (fun v B hp' h => by
        obtain ⟨⟨r, h1, h2⟩, h3⟩ := h
        refine ⟨⟨r, h1⟩, ?_, h3⟩
        have h2' : (isD (eBuild r)).p v B := h2
        rw [eBuild_eq] at h2'
        exact tupA_of h2') (fun q => dgA2 rfl (fun A => dg_name 8 sc_law.nd rfl (Or.inl rfl)) (fun A => dg_name 9 sc_law.nd rfl (Or.inl rfl))) ?_
    rintro ⟨r, hE⟩
    have hl := search_law okr oks hE
    have hne : ∀ {X : Cx}, (!PyData.eqv (.list (sm.map eCh)) (.list [])) = !sm.isEmpty := fun {X} => by rw [eqvL_nil]; cases sm <;> rfl
    cases r with
    | inl q =>
      obtain ⟨oc, g⟩ := hl
      have hq : q.1 ∈ sm := (hsm q.1).mpr ⟨(mem_chL _ sheet rfl q.1).mpr oc, g⟩
      have hE' : OkC sheet q.1 ∧ OkGv (chosenW sheet q.1) q.2 ∧ Serves (heapRows rows) (chosenW sheet q.1) q.2 := by
        cases hE with
        | found h1 h2 h3 => exact ⟨h1, h2, h3⟩
      refine dss_if (M := fun _ _ => False) (b := true) (hp1 := []) (dt_eq (dt_cmp (op_neD (hu64 hr)) (re_neD (d := .list (sm.map eCh)) (e := .list []) (eChL_shaped sm) rfl) (de_var 6 rfl) (de_lst (ds := []) da_nil)) ?_) (fun _ => ?_) (fun h => by cases h) (fun s h z => z.elim)
      · rw [eqvL_nil]
        cases sm with
        | nil => cases hq
        | cons _ _ => rfl
      · refine dss_ifr (b := false) (dt_eq (dt_w (dw_or (dt_eq (dt_cmp op_ne (re_neS (x := "dealt") (y := "dealt")) (de_var 8 rfl) de_str) (by decide : _ = false)) fun _ => dw_or1 (dt_cmp op_isnot_bl (re_isNotB (a := true) (b := true)) (de_callP d2 hr (by omega) (heapRows rows, sheet, q) ⟨okh, oks, hE'⟩ (da_cons (de_var 3 rfl) (da_cons (de_var 5 rfl) (da_cons (de_var 9 rfl) da_nil)))) de_bl))) (by decide)) (fun h => by cases h) (fun _ => ?_)
        refine dss_ret (A := isB true) (hp1 := []) (de_eq (de_cmp (op_inD (hu65 hr)) (re_inDL (d := eCh q.1) (ds := sm.map eCh) (eCh_shaped q.1) (eChL_shaped sm)) (de_ixT (ds := [eCh q.1, eGiven q.2]) ix0 (de_var 9 rfl) de_int) (de_var 6 rfl)) (congrArg PyData.bool ?_)) fun v B h => ⟨rfl, h⟩
        exact List.any_eq_true.mpr ⟨eCh q.1, List.mem_map_of_mem (f := eCh) hq, eqv_ch q.1⟩
    | inr t =>
      have hl : ∀ cs, OkC sheet cs → ¬ GivenOut rows (chosenW sheet cs) := hl
      have hnil : sm = [] := List.eq_nil_iff_forall_not_mem.mpr fun c hc => hl c ((mem_chL _ sheet rfl c).mp ((hsm c).mp hc).1) ((hsm c).mp hc).2
      subst hnil
      have tree : TreeOk (heapRows rows) sheet (begunL sheet) t := by
        cases hE with
        | tree h => exact h
      refine dss_ifr (b := false) (dt_eq (dt_cmp (op_neD (hu64 hr)) (re_neD (d := .list []) (e := .list []) rfl rfl) (de_var 6 rfl) (de_lst (ds := []) da_nil)) (by rw [eqvL_nil]; rfl)) (fun h => by cases h) (fun _ => ?_)
      refine dss_ret (A := isB true) (hp1 := []) (de_eq (de_and0 (t := true) (u := true) (de_eq (de_cmp op_eq (re_eqS (x := "cases") (y := "cases")) (de_var 8 rfl) de_str) (congrArg PyData.bool (by decide))) fun _ => de_one (de_cmp op_gt (re_ex1 fun n => re_and1 fun hn => re_to re_B0 fun v B q => ?_) (de_callP d3 hr (by omega) (heapRows rows, sheet, t) ⟨okh, oks, tree⟩ (da_cons (de_var 3 rfl) (da_cons (de_var 5 rfl) (da_cons (de_var 9 rfl) da_nil)))) de_int)) rfl) fun v B h => ⟨rfl, h⟩
      have e : decide (n > (0 : Int)) = true := decide_eq_true hn
      rw [← e]; exact q
end
end PK
end
section
set_option Elab.async false
set_option linter.all false
set_option maxRecDepth 100000
set_option maxHeartbeats 8000000
namespace PK
open PySem PySem.Spec PyProof.Rows L2
section
variable {P : Program} {w : World} {K : PySem.W.Frag} {mg : Str → Option Value} {base : Heap}
theorem w_is_number (W : Wd K mg) : C8.Cal P w K mg base 1 "is_number" (spNumber) [] := by
  obtain ⟨fd, F⟩ := W.def_ 20 (d := d_is_number) rfl
  exact ⟨_, fd, ["thing"], [], ok_is_number W.bi F, W.glo 15 rfl, F.kp, F.bindsN (fun _ _ _ _ _ _ us hl => match us, hl with | [_], _ => rfl), .nil⟩
theorem w_many (W : Wd K mg) : C8.Met P w K mg base 1 (HC K) "many" (spMany K) [] := by
  obtain ⟨fd, F⟩ := W.def_ 3 (d := d_h_many) rfl
  obtain ⟨ds, hv, hb⟩ := FunD.binds1 (ps := ["self", "form", "shade"]) F 3 1 (by simp [He.DefD.dvs, d_h_many]) rfl fun T kV doc pm an cdv ct us its l1 l2 => match us, l1, its, l2 with | [_, _, _], _, [_], _ => ⟨_, rfl, rfl⟩
  exact ⟨_, fd, ["self", "form", "shade"], ds, W.hc.cl, He.meth_ok (W.c.fact 73 rfl), ok_many W.bi W.hc F, hb, hv⟩
theorem w_many2 (W : Wd K mg) : C8.Met P w K mg base 1 (HC K) "many" (spMany K) [.non] := by
  obtain ⟨fd, F⟩ := W.def_ 3 (d := d_h_many) rfl
  obtain ⟨ds, hv, hb⟩ := FunD.binds1 (ps := ["self", "form", "shade"]) F 2 0 (by simp [He.DefD.dvs, d_h_many]) rfl fun T kV doc pm an cdv ct us its l1 l2 => match us, l1, its, l2 with | [_, _], _, [_], _ => ⟨_, rfl, rfl⟩
  exact ⟨_, fd, ["self", "form", "shade"], ds, W.hc.cl, He.meth_ok (W.c.fact 73 rfl), ok_many W.bi W.hc F, hb, hv⟩
theorem w_rows (W : Wd K mg) : C8.Met P w K mg base 1 (HC K) "rows" (spRows K) [] := by
  obtain ⟨fd, F⟩ := W.def_ 2 (d := d_h_rows) rfl
  exact ⟨_, fd, ["self"], [], W.hc.cl, He.meth_ok (W.c.fact 74 rfl), ok_rows W.hc F, F.bindsN (fun _ _ _ _ _ _ us hl => match us, hl with | [_], _ => rfl), .nil⟩
theorem w_rows_lacking (W : Wd K mg) : C8.Met P w K mg base 2 (HC K) "rows_lacking" (spLacking K) [] := by
  obtain ⟨fd, F⟩ := W.def_ 4 (d := d_h_rows_lacking) rfl
  exact ⟨_, fd, ["self", "other"], [], W.hc.cl, He.meth_ok (W.c.fact 75 rfl), ok_rows_lacking W.bi W.hc (w_many W) F, F.bindsN (fun _ _ _ _ _ _ us hl => match us, hl with | [_, _], _ => rfl), .nil⟩
theorem w_holds (W : Wd K mg) : C8.Met P w K mg base 3 (HC K) "holds" (spHolds K) [] := by
  obtain ⟨fd, F⟩ := W.def_ 5 (d := d_h_holds) rfl
  exact ⟨_, fd, ["self", "other"], [], W.hc.cl, He.meth_ok (W.c.fact 76 rfl), ok_holds (w_rows_lacking W) F, F.bindsN (fun _ _ _ _ _ _ us hl => match us, hl with | [_, _], _ => rfl), .nil⟩
theorem w_lets (W : Wd K mg) : C8.Cal P w K mg base 2 "lets" (spLets K) [] := by
  obtain ⟨fd, F⟩ := W.def_ 6 (d := d_lets) rfl
  exact ⟨_, fd, ["heap", "want"], [], ok_lets W.bi (w_rows W) F, W.glo 1 rfl, F.kp, F.bindsN (fun _ _ _ _ _ _ us hl => match us, hl with | [_, _], _ => rfl), .nil⟩
theorem w_spread (W : Wd K mg) : C8.Cal P w K mg base 3 "spread" (spSpread K) [] := by
  obtain ⟨fd, F⟩ := W.def_ 7 (d := d_spread) rfl
  exact ⟨_, fd, ["heap", "wants", "gifts", "left", "k"], [], ok_spread W.bi (w_lets W) F, W.glo 2 rfl, F.kp, F.bindsN (fun _ _ _ _ _ _ us hl => match us, hl with | [_, _, _, _, _], _ => rfl), .nil⟩
theorem w_way_of (W : Wd K mg) : C8.Cal P w K mg base 1 "way_of" (spWayOf) [] := by
  obtain ⟨fd, F⟩ := W.def_ 8 (d := d_way_of) rfl
  exact ⟨_, fd, ["parts", "holders", "part"], [], ok_way_of F, W.glo 3 rfl, F.kp, F.bindsN (fun _ _ _ _ _ _ us hl => match us, hl with | [_, _, _], _ => rfl), .nil⟩
theorem w_lead (W : Wd K mg) : C8.Cal P w K mg base 4 "lead" (spLead K) [] := by
  obtain ⟨fd, F⟩ := W.def_ 9 (d := d_lead) rfl
  exact ⟨_, fd, ["heap", "wants", "gifts", "left", "k", "most"], [], ok_lead W.bi (w_spread W) (w_way_of W) F, W.glo 4 rfl, F.kp, F.bindsN (fun _ _ _ _ _ _ us hl => match us, hl with | [_, _, _, _, _, _], _ => rfl), .nil⟩
theorem w_parts_left (W : Wd K mg) : C8.Cal P w K mg base 2 "parts_left" (spPartsLeft K) [] := by
  obtain ⟨fd, F⟩ := W.def_ 10 (d := d_parts_left) rfl
  exact ⟨_, fd, ["heap"], [], ok_parts_left (w_rows W) F, W.glo 5 rfl, F.kp, F.bindsN (fun _ _ _ _ _ _ us hl => match us, hl with | [_], _ => rfl), .nil⟩
theorem w_led (W : Wd K mg) : C8.Cal P w K mg base 5 "led" (spLed K) [] := by
  obtain ⟨fd, F⟩ := W.def_ 11 (d := d_led) rfl
  exact ⟨_, fd, ["heap", "wants"], [], ok_led W.bi (w_spread W) (w_parts_left W) (w_lead W) F, W.glo 6 rfl, F.kp, F.bindsN (fun _ _ _ _ _ _ us hl => match us, hl with | [_, _], _ => rfl), .nil⟩
theorem w_as_gift (W : Wd K mg) : C8.Cal P w K mg base 1 "as_gift" (spAsGift) [] := by
  obtain ⟨fd, F⟩ := W.def_ 12 (d := d_as_gift) rfl
  exact ⟨_, fd, ["some"], [], ok_as_gift W.bi F, W.glo 7 rfl, F.kp, F.bindsN (fun _ _ _ _ _ _ us hl => match us, hl with | [_], _ => rfl), .nil⟩
theorem w_shades_of (W : Wd K mg) : C8.Cal P w K mg base 1 "shades_of" (spShades) [] := by
  obtain ⟨fd, F⟩ := W.def_ 13 (d := d_shades_of) rfl
  exact ⟨_, fd, ["wants", "some"], [], ok_shades_of W.bi F, W.glo 8 rfl, F.kp, F.bindsN (fun _ _ _ _ _ _ us hl => match us, hl with | [_, _], _ => rfl), .nil⟩
theorem w_deal (W : Wd K mg) : C8.Cal P w K mg base 6 "deal" (spDeal K) [] := by
  obtain ⟨fd, F⟩ := W.def_ 14 (d := d_deal) rfl
  exact ⟨_, fd, ["heap", "wants"], [], ok_deal W.bi (w_led W) (w_as_gift W) (w_shades_of W) F, W.glo 9 rfl, F.kp, F.bindsN (fun _ _ _ _ _ _ us hl => match us, hl with | [_, _], _ => rfl), .nil⟩
theorem w_begun_ways (W : Wd K mg) : C8.Cal P w K mg base 1 "begun_ways" (spBegun) [] := by
  obtain ⟨fd, F⟩ := W.def_ 15 (d := d_begun_ways) rfl
  exact ⟨_, fd, ["sheet"], [], ok_begun_ways W.bi F, W.glo 10 rfl, F.kp, F.bindsN (fun _ _ _ _ _ _ us hl => match us, hl with | [_], _ => rfl), .nil⟩
theorem w_taken_wants (W : Wd K mg) : C8.Cal P w K mg base 1 "taken_wants" (spTaken) [] := by
  obtain ⟨fd, F⟩ := W.def_ 16 (d := d_taken_wants) rfl
  exact ⟨_, fd, ["sheet", "taken"], [], ok_taken_wants W.bi F, W.glo 11 rfl, F.kp, F.bindsN (fun _ _ _ _ _ _ us hl => match us, hl with | [_, _], _ => rfl), .nil⟩
theorem w_searched (W : Wd K mg) : ∀ m, C8.Cal P w K mg base (2 * m + 7) "searched" (spSearched K m) [] := by
  intro m
  obtain ⟨fd, F⟩ := W.def_ 17 (d := d_searched) rfl
  obtain ⟨fe, G⟩ := W.def_ 18 (d := d_by_cases) rfl
  have b : Binds K fd ["heap", "sheet", "taken"] [] := F.bindsN (fun _ _ _ _ _ _ us hl => match us, hl with | [_, _, _], _ => rfl)
  have b2 : Binds K fe ["heap", "sheet", "taken", "k"] [] := G.bindsN (fun _ _ _ _ _ _ us hl => match us, hl with | [_, _, _, _], _ => rfl)
  induction m with
  | zero => exact ⟨_, fd, ["heap", "sheet", "taken"], [], ok_searched 0 W.bi (w_deal W) (w_taken_wants W) (fun n h => absurd h (by omega)) F, W.glo 12 rfl, F.kp, b, .nil⟩
  | succ m ih =>
    have c : C8.Cal P w K mg base (2 * m + 8) "by_cases" (spByCases K m) [] := ⟨_, fe, ["heap", "sheet", "taken", "k"], [], ok_by_cases m W.bi ih G, W.glo 13 rfl, G.kp, b2, .nil⟩
    exact ⟨_, fd, ["heap", "sheet", "taken"], [], ok_searched (m + 1) W.bi (w_deal W) (w_taken_wants W) (fun n h => by
      have e : m = n := by omega
      subst e
      exact c) F, W.glo 12 rfl, F.kp, b, .nil⟩
theorem w_build (W : Wd K mg) : C8.Cal P w K mg base 14 "build" (spBuild K) [] := by
  obtain ⟨fd, F⟩ := W.def_ 19 (d := d_build) rfl
  exact ⟨_, fd, ["heap", "sheet"], [], ok_build W.bi (fun m _ => w_searched W m) (w_begun_ways W) F, W.glo 14 rfl, F.kp, F.bindsN (fun _ _ _ _ _ _ us hl => match us, hl with | [_, _], _ => rfl), .nil⟩
theorem w_is_word (W : Wd K mg) : C8.Cal P w K mg base 1 "is_word" (spWord) [] := by
  obtain ⟨fd, F⟩ := W.def_ 21 (d := d_is_word) rfl
  exact ⟨_, fd, ["thing"], [], ok_is_word W.bi W.gk F, W.glo 16 rfl, F.kp, F.bindsN (fun _ _ _ _ _ _ us hl => match us, hl with | [_], _ => rfl), .nil⟩
theorem w_need (W : Wd K mg) : C8.Cal P w K mg base 1 "need" (spNeed) [] := by
  obtain ⟨fd, F⟩ := W.def_ 22 (d := d_need) rfl
  exact ⟨_, fd, ["truth", "word", "at"], [], ok_need F, W.glo 17 rfl, F.kp, F.bindsN (fun _ _ _ _ _ _ us hl => match us, hl with | [_, _, _], _ => rfl), .nil⟩
theorem w_wanted (W : Wd K mg) : C8.Cal P w K mg base 1 "wanted" (spWanted) [] := by
  obtain ⟨fd, F⟩ := W.def_ 23 (d := d_wanted) rfl
  exact ⟨_, fd, ["wants", "form", "shades"], [], ok_wanted W.bi F, W.glo 18 rfl, F.kp, F.bindsN (fun _ _ _ _ _ _ us hl => match us, hl with | [_, _, _], _ => rfl), .nil⟩
theorem w_there (W : Wd K mg) : C8.Cal P w K mg base 2 "there" (spThere K) [] := by
  obtain ⟨fd, F⟩ := W.def_ 24 (d := d_there) rfl
  exact ⟨_, fd, ["heap", "form", "shades"], [], ok_there W.bi (w_many W) (w_many2 W) F, W.glo 19 rfl, F.kp, F.bindsN (fun _ _ _ _ _ _ us hl => match us, hl with | [_, _, _], _ => rfl), .nil⟩
theorem w_is_rising (W : Wd K mg) : C8.Cal P w K mg base 2 "is_rising" (spRising) [] := by
  obtain ⟨fd, F⟩ := W.def_ 25 (d := d_is_rising) rfl
  exact ⟨_, fd, ["some"], [], ok_is_rising W.bi (w_is_word W) F, W.glo 20 rfl, F.kp, F.bindsN (fun _ _ _ _ _ _ us hl => match us, hl with | [_], _ => rfl), .nil⟩
theorem w_is_shaped (W : Wd K mg) : C8.Cal P w K mg base 2 "is_shaped" (spShaped) [] := by
  obtain ⟨fd, F⟩ := W.def_ 26 (d := d_is_shaped) rfl
  exact ⟨_, fd, ["thing"], [], ok_is_shaped W.bi (w_is_word W) F, W.glo 21 rfl, F.kp, F.bindsN (fun _ _ _ _ _ _ us hl => match us, hl with | [_], _ => rfl), .nil⟩
theorem w_is_bar (W : Wd K mg) : C8.Cal P w K mg base 3 "is_bar" (spIsBar K) [] := by
  obtain ⟨fd, F⟩ := W.def_ 27 (d := d_is_bar) rfl
  exact ⟨_, fd, ["heap", "wants", "thing"], [], ok_is_bar W.bi (w_is_shaped W) (w_is_rising W) (w_wanted W) (w_there W) F, W.glo 22 rfl, F.kp, F.bindsN (fun _ _ _ _ _ _ us hl => match us, hl with | [_, _, _], _ => rfl), .nil⟩
theorem w_lets_bar (W : Wd K mg) : C8.Cal P w K mg base 4 "lets_bar" (spLetsBar K) [] := by
  obtain ⟨fd, F⟩ := W.def_ 28 (d := d_lets_bar) rfl
  exact ⟨_, fd, ["heap", "wants", "thing"], [], ok_lets_bar W.bi (w_is_shaped W) (w_is_rising W) (w_is_bar W) (w_need W) F, W.glo 23 rfl, F.kp, F.bindsN (fun _ _ _ _ _ _ us hl => match us, hl with | [_, _, _], _ => rfl), .nil⟩
theorem w_need_node (W : Wd K mg) : C8.Cal P w K mg base 1 "need_node" (spNeed) [] := by
  obtain ⟨fd, F⟩ := W.def_ 29 (d := d_need_node) rfl
  exact ⟨_, fd, ["truth", "word", "number"], [], ok_need_node F, W.glo 24 rfl, F.kp, F.bindsN (fun _ _ _ _ _ _ us hl => match us, hl with | [_, _, _], _ => rfl), .nil⟩
theorem w_is_barred (W : Wd K mg) : C8.Cal P w K mg base 5 "is_barred" (spBarred K) [] := by
  obtain ⟨fd, F⟩ := W.def_ 30 (d := d_is_barred) rfl
  exact ⟨_, fd, ["heap", "wants", "thing"], [], ok_is_barred (w_lets_bar W) F, W.glo 25 rfl, F.kp, F.bindsN (fun _ _ _ _ _ _ us hl => match us, hl with | [_, _, _], _ => rfl), .nil⟩
theorem w_is_free (W : Wd K mg) : C8.Cal P w K mg base 2 "is_free" (spFree) [] := by
  obtain ⟨fd, F⟩ := W.def_ 31 (d := d_is_free) rfl
  exact ⟨_, fd, ["taken", "k"], [], ok_is_free W.bi (w_is_number W) F, W.glo 26 rfl, F.kp, F.bindsN (fun _ _ _ _ _ _ us hl => match us, hl with | [_, _], _ => rfl), .nil⟩
theorem w_has_form (W : Wd K mg) : C8.Cal P w K mg base 1 "has_form" (spForm) [] := by
  obtain ⟨fd, F⟩ := W.def_ 32 (d := d_has_form) rfl
  exact ⟨_, fd, ["thing"], [], ok_has_form W.bi F, W.glo 27 rfl, F.kp, F.bindsN (fun _ _ _ _ _ _ us hl => match us, hl with | [_], _ => rfl), .nil⟩
theorem w_look_at (W : Wd K mg) : ∀ m, C8.Cal P w K mg base (2 * m + 6) "look_at" (spLookAt K m) [] := by
  intro m
  obtain ⟨fd, F⟩ := W.def_ 33 (d := d_look_at) rfl
  obtain ⟨fe, G⟩ := W.def_ 34 (d := d_look_below) rfl
  have b : Binds K fd ["heap", "sheet", "taken", "thing", "seen"] [] := F.bindsN (fun _ _ _ _ _ _ us hl => match us, hl with | [_, _, _, _, _], _ => rfl)
  have b2 : Binds K fe ["heap", "sheet", "taken", "thing", "seen"] [] := G.bindsN (fun _ _ _ _ _ _ us hl => match us, hl with | [_, _, _, _, _], _ => rfl)
  induction m with
  | zero => exact ⟨_, fd, ["heap", "sheet", "taken", "thing", "seen"], [], ok_look_at 0 W.bi (w_has_form W) (w_need_node W) (w_is_barred W) (w_taken_wants W) (fun n h => absurd h (by omega)) F, W.glo 28 rfl, F.kp, b, .nil⟩
  | succ m ih =>
    have c : C8.Cal P w K mg base (2 * m + 7) "look_below" (spLookBelow K m) [] := ⟨_, fe, ["heap", "sheet", "taken", "thing", "seen"], [], ok_look_below m W.bi (w_is_free W) (w_need_node W) ih G, W.glo 29 rfl, G.kp, b2, .nil⟩
    exact ⟨_, fd, ["heap", "sheet", "taken", "thing", "seen"], [], ok_look_at (m + 1) W.bi (w_has_form W) (w_need_node W) (w_is_barred W) (w_taken_wants W) (fun n h => by
      have e : m = n := by omega
      subst e
      exact c) F, W.glo 28 rfl, F.kp, b, .nil⟩
theorem w_lets_cases (W : Wd K mg) : C8.Cal P w K mg base 13 "lets_cases" (spLetsCases K) [] := by
  obtain ⟨fd, F⟩ := W.def_ 35 (d := d_lets_cases) rfl
  exact ⟨_, fd, ["heap", "sheet", "thing"], [], ok_lets_cases W.bi (fun m _ => w_look_at W m) (w_begun_ways W) F, W.glo 30 rfl, F.kp, F.bindsN (fun _ _ _ _ _ _ us hl => match us, hl with | [_, _, _], _ => rfl), .nil⟩
theorem w_choices (W : Wd K mg) : C8.Cal P w K mg base 1 "choices" (spChoices) [] := by
  obtain ⟨fd, F⟩ := W.def_ 36 (d := d_choices) rfl
  exact ⟨_, fd, ["sheet"], [], ok_choices W.bi F, W.glo 31 rfl, F.kp, F.bindsN (fun _ _ _ _ _ _ us hl => match us, hl with | [_], _ => rfl), .nil⟩
theorem w_wants_of (W : Wd K mg) : CalW P w K mg base 1 "wants_of" spWantsOf 1 ["choice"] (fun vs zs => vs ++ zs) := by
  obtain ⟨fd, F⟩ := W.def_ 37 (d := d_wants_of) rfl
  obtain ⟨its, kb⟩ := FunD.kbindsD (ps := ["sheet", "choice"]) F 1 ["choice"] (fun us _ ws => us ++ ws) (by simp [He.DefD.dvs, d_wants_of]) (fun a _ c => a.append c) fun T kV doc pm an cdv ct us its ws l1 l2 l3 => match us, l1, its, l2, ws, l3 with | [_], _, [_], _, [_], _ => ⟨_, rfl, rfl⟩
  exact ⟨_, fd, ["sheet", "choice"], _, ok_wants_of W.bi F, W.glo 32 rfl, F.kp, kb⟩
theorem w_is_gift (W : Wd K mg) : C8.Cal P w K mg base 2 "is_gift" (spGift) [] := by
  obtain ⟨fd, F⟩ := W.def_ 38 (d := d_is_gift) rfl
  exact ⟨_, fd, ["many", "thing"], [], ok_is_gift W.bi (w_is_word W) (w_is_number W) F, W.glo 33 rfl, F.kp, F.bindsN (fun _ _ _ _ _ _ us hl => match us, hl with | [_, _], _ => rfl), .nil⟩
theorem w_is_right (W : Wd K mg) : C8.Cal P w K mg base 1 "is_right" (spRight) [] := by
  obtain ⟨fd, F⟩ := W.def_ 39 (d := d_is_right) rfl
  exact ⟨_, fd, ["want", "gift"], [], ok_is_right W.bi F, W.glo 34 rfl, F.kp, F.bindsN (fun _ _ _ _ _ _ us hl => match us, hl with | [_, _], _ => rfl), .nil⟩
theorem w_are_gifts (W : Wd K mg) : C8.Cal P w K mg base 3 "are_gifts" (spAreGifts) [] := by
  obtain ⟨fd, F⟩ := W.def_ 40 (d := d_are_gifts) rfl
  exact ⟨_, fd, ["wants", "thing"], [], ok_are_gifts W.bi (w_is_gift W) F, W.glo 35 rfl, F.kp, F.bindsN (fun _ _ _ _ _ _ us hl => match us, hl with | [_, _], _ => rfl), .nil⟩
theorem w_is_given (W : Wd K mg) : C8.Cal P w K mg base 4 "is_given" (spAreGifts) [] := by
  obtain ⟨fd, F⟩ := W.def_ 41 (d := d_is_given) rfl
  exact ⟨_, fd, ["wants", "thing"], [], ok_is_given W.bi (w_are_gifts W) (w_is_right W) F, W.glo 36 rfl, F.kp, F.bindsN (fun _ _ _ _ _ _ us hl => match us, hl with | [_, _], _ => rfl), .nil⟩
theorem w_counted (W : Wd K mg) : C8.Cal P w K mg base 1 "counted" (spCounted) [] := by
  obtain ⟨fd, F⟩ := W.def_ 0 (d := d_counted) rfl
  exact ⟨_, fd, ["rows"], [], ok_counted F, W.glo 0 rfl, F.kp, F.bindsN (fun _ _ _ _ _ _ us hl => match us, hl with | [_], _ => rfl), .nil⟩
theorem w_Heap (W : Wd K mg) : C8.Mak P w K mg base 2 "Heap" (HC K) (spInit K) [] := by
  obtain ⟨fd, F⟩ := W.def_ 1 (d := d_hInit) rfl
  obtain ⟨ds, hv, hb⟩ := FunD.binds1 (ps := ["self", "rows"]) F 2 1 (by simp [He.DefD.dvs, d_hInit]) rfl fun T kV doc pm an cdv ct us its l1 l2 => match us, l1, its, l2 with | [_, _], _, [_], _ => ⟨_, rfl, rfl⟩
  exact ⟨_, fd, ["self", "rows"], ds, He.mkr_ok (W.c.fact 72 rfl), ok_hInit W.bi W.hc (w_counted W) F, W.glo 54 rfl, hb, hv⟩
theorem w_given_sum (W : Wd K mg) : C8.Cal P w K mg base 4 "given_sum" (spGivenSum K) [] := by
  obtain ⟨fd, F⟩ := W.def_ 42 (d := d_given_sum) rfl
  exact ⟨_, fd, ["wants", "given"], [], ok_given_sum W.bi (w_Heap W) F, W.glo 37 rfl, F.kp, F.bindsN (fun _ _ _ _ _ _ us hl => match us, hl with | [_, _], _ => rfl), .nil⟩
theorem w_serves (W : Wd K mg) : C8.Cal P w K mg base 5 "serves" (spServes K) [] := by
  obtain ⟨fd, F⟩ := W.def_ 43 (d := d_serves) rfl
  exact ⟨_, fd, ["heap", "wants", "given"], [], ok_serves W.bi (w_holds W) (w_given_sum W) F, W.glo 38 rfl, F.kp, F.bindsN (fun _ _ _ _ _ _ us hl => match us, hl with | [_, _, _], _ => rfl), .nil⟩
theorem w_is_dealing (W : Wd K mg) : C8.Cal P w K mg base 6 "is_dealing" (spIsDealing K) [] := by
  obtain ⟨fd, F⟩ := W.def_ 44 (d := d_is_dealing) rfl
  exact ⟨_, fd, ["heap", "sheet", "thing"], [], ok_is_dealing W.bi (w_is_number W) (w_choices W) (w_wants_of W) (w_is_given W) (w_serves W) F, W.glo 39 rfl, F.kp, F.bindsN (fun _ _ _ _ _ _ us hl => match us, hl with | [_, _, _], _ => rfl), .nil⟩
theorem w_law_tape (W : Wd K mg) : C8.Cal P w K mg base 1 "_law_tape" (spTape K) [] := by
  obtain ⟨fd, F⟩ := W.def_ 45 (d := d__law_tape) rfl
  exact ⟨_, fd, ["_law_script"], [], ok_law_tape W.bi F, W.glo 40 rfl, F.kp, F.bindsN (fun _ _ _ _ _ _ us hl => match us, hl with | [_], _ => rfl), .nil⟩
theorem w_law_pick (W : Wd K mg) : C8.Cal P w K mg base 1 "_law_pick" (spPick) [] := by
  obtain ⟨fd, F⟩ := W.def_ 46 (d := d__law_pick) rfl
  exact ⟨_, fd, ["_law_tape_here", "_law_many"], [], ok_law_pick W.bi F, W.glo 41 rfl, F.kp, F.bindsN (fun _ _ _ _ _ _ us hl => match us, hl with | [_, _], _ => rfl), .nil⟩
theorem w_law_forms (W : Wd K mg) : C8.Cal P w K mg base 1 "_law_forms" (spLForms) [] := by
  obtain ⟨fd, F⟩ := W.def_ 47 (d := d__law_forms) rfl
  exact ⟨_, fd, [], [], ok_law_forms F, W.glo 42 rfl, F.kp, F.bindsN (fun _ _ _ _ _ _ us hl => match us, hl with | [], _ => rfl), .nil⟩
theorem w_law_shades (W : Wd K mg) : C8.Cal P w K mg base 1 "_law_shades" (spLShades) [] := by
  obtain ⟨fd, F⟩ := W.def_ 48 (d := d__law_shades) rfl
  exact ⟨_, fd, [], [], ok_law_shades F, W.glo 43 rfl, F.kp, F.bindsN (fun _ _ _ _ _ _ us hl => match us, hl with | [], _ => rfl), .nil⟩
theorem w_law_count (W : Wd K mg) : C8.Cal P w K mg base 2 "_law_count" (spCount) [] := by
  obtain ⟨fd, F⟩ := W.def_ 49 (d := d__law_count) rfl
  exact ⟨_, fd, ["_law_tape_here", "_law_great"], [], ok_law_count (w_law_pick W) F, W.glo 44 rfl, F.kp, F.bindsN (fun _ _ _ _ _ _ us hl => match us, hl with | [_, _], _ => rfl), .nil⟩
theorem w_law_want (W : Wd K mg) : C8.Cal P w K mg base 3 "_law_want" (spWant) [] := by
  obtain ⟨fd, F⟩ := W.def_ 50 (d := d__law_want) rfl
  exact ⟨_, fd, ["_law_tape_here", "_law_great"], [], ok_law_want W.bi (w_law_pick W) (w_law_forms W) (w_law_shades W) (w_law_count W) F, W.glo 45 rfl, F.kp, F.bindsN (fun _ _ _ _ _ _ us hl => match us, hl with | [_, _], _ => rfl), .nil⟩
theorem w_law_way (W : Wd K mg) : C8.Cal P w K mg base 4 "_law_way" (spWay) [] := by
  obtain ⟨fd, F⟩ := W.def_ 51 (d := d__law_way) rfl
  exact ⟨_, fd, ["_law_tape_here", "_law_most_wants", "_law_great"], [], ok_law_way W.bi (w_law_pick W) (w_law_want W) F, W.glo 46 rfl, F.kp, F.bindsN (fun _ _ _ _ _ _ us hl => match us, hl with | [_, _, _], _ => rfl), .nil⟩
theorem w_law_sheet (W : Wd K mg) : C8.Cal P w K mg base 5 "_law_sheet" (spSheet) [] := by
  obtain ⟨fd, F⟩ := W.def_ 52 (d := d__law_sheet) rfl
  exact ⟨_, fd, ["_law_tape_here", "_law_rows_here", "_law_room", "_law_great"], [], ok_law_sheet W.bi (w_law_pick W) (w_law_way W) F, W.glo 47 rfl, F.kp, F.bindsN (fun _ _ _ _ _ _ us hl => match us, hl with | [_, _, _, _], _ => rfl), .nil⟩
theorem w_law_rows (W : Wd K mg) : C8.Cal P w K mg base 3 "_law_rows" (spLRows) [] := by
  obtain ⟨fd, F⟩ := W.def_ 53 (d := d__law_rows) rfl
  exact ⟨_, fd, ["_law_tape_here", "_law_great"], [], ok_law_rows W.bi (w_law_pick W) (w_law_forms W) (w_law_shades W) (w_law_count W) F, W.glo 48 rfl, F.kp, F.bindsN (fun _ _ _ _ _ _ us hl => match us, hl with | [_, _], _ => rfl), .nil⟩
theorem w_law_stock (W : Wd K mg) : C8.Cal P w K mg base 1 "_law_stock" (spStock) [] := by
  obtain ⟨fd, F⟩ := W.def_ 54 (d := d__law_stock) rfl
  exact ⟨_, fd, ["_law_rows_here"], [], ok_law_stock F, W.glo 49 rfl, F.kp, F.bindsN (fun _ _ _ _ _ _ us hl => match us, hl with | [_], _ => rfl), .nil⟩
theorem w_law_choices (W : Wd K mg) : C8.Cal P w K mg base 1 "_law_choices" (spLawChoices) [] := by
  obtain ⟨fd, F⟩ := W.def_ 55 (d := d__law_choices) rfl
  exact ⟨_, fd, ["_law_sheet_here"], [], ok_law_choices W.bi F, W.glo 50 rfl, F.kp, F.bindsN (fun _ _ _ _ _ _ us hl => match us, hl with | [_], _ => rfl), .nil⟩
theorem w_law_wants (W : Wd K mg) : C8.Cal P w K mg base 1 "_law_wants" (spLawWants) [] := by
  obtain ⟨fd, F⟩ := W.def_ 56 (d := d__law_wants) rfl
  exact ⟨_, fd, ["_law_sheet_here", "_law_choice"], [], ok_law_wants W.bi F, W.glo 51 rfl, F.kp, F.bindsN (fun _ _ _ _ _ _ us hl => match us, hl with | [_, _], _ => rfl), .nil⟩
theorem w_law_given_out (W : Wd K mg) : C8.Cal P w K mg base 2 "_law_given_out" (spGivenOut) [] := by
  obtain ⟨fd, F⟩ := W.def_ 57 (d := d__law_given_out) rfl
  exact ⟨_, fd, ["_law_stock_here", "_law_wants_here"], [], ok_law_given_out W.bi (w_law_forms W) (w_law_shades W) F, W.glo 52 rfl, F.kp, F.bindsN (fun _ _ _ _ _ _ us hl => match us, hl with | [_, _], _ => rfl), .nil⟩
theorem w_law (W : Wd K mg) {f : Addr} (hf : mg "law" = some (.ref f)) : ∃ fd : FuncData, (∀ (s : Shared) (v : Value), BindsTo s fd ⟨[v], []⟩ [("_law_script", v)]) ∧ ∀ (P : Program) (w : World) (base : Heap), FnOk P w K mg base CX0 15 f fd ["_law_script"] (spLaw K) := by
  obtain ⟨fd, F⟩ := W.def_ 58 (d := d_law) rfl
  have e := hf.symm.trans (W.glo 53 rfl)
  cases e
  have b := FunD.bindsA (ps := ["_law_script"]) F fun _ _ _ _ _ _ us hl => match us, hl with | [_], _ => rfl
  exact ⟨fd, fun s v => b s [v] rfl, fun P w base => ok_law W.bi (w_law_tape W) (w_law_rows W) (w_Heap W) (w_law_stock W) (w_law_pick W) (w_law_sheet W) (w_law_choices W) (w_law_wants W) (w_law_given_out W) (w_build W) (w_is_dealing W) (w_lets_cases W) F⟩
end
end PK
end
section
set_option Elab.async false
set_option linter.all false
set_option maxRecDepth 100000
set_option maxHeartbeats 0
namespace PK
open PySem PySem.Spec PyProof.Rows L2
theorem law_sp {K : PySem.W.Frag} {H : Hp} {a : Addr} {ns : List Int} (hl : ns.length ≤ 63) (hS : SqL K H a (ns.map V.int)) {E : XK} : spLaw K [.ref a] H (fun v _ => v = .bl true) E :=
  ⟨ns, H, hl, .cons ⟨a, rfl, hS⟩ .nil, ⟨Same.refl H, Same.refl H, fun a h => .inl h, fun a o h _ => h, fun a h => h, (fun q h => by cases h), List.nodup_nil, fun a h => by cases h⟩, fun v B' H' hp' _ h => by
    obtain ⟨_, h⟩ := h
    cases h; rfl⟩
end PK
open PySem PySem.W PySem.Calls PyProof.Rows
theorem PySem.Challenge.cw_partkits_k39_whole_built_or_cases_holds : PySem.Challenge.rw_partkits_k39_whole_built_or_cases.Holds := by
  w_on; o_law
  refine HandSHeadRun.head_any (r := OpenLaw.row PySem.Challenge.rw_partkits_k39_whole_built_or_cases) (q := view (OpenLaw.row PySem.Challenge.rw_partkits_k39_whole_built_or_cases).prog [70]) (H := PK.hk) (ob := PK.ob) (M := 3000) (loose := PK.nms) (d := HandSHeadRun.topDef (OpenLaw.row PySem.Challenge.rw_partkits_k39_whole_built_or_cases).prog 70) (kwd := []) PK.ob_eq
    (by kernel_rfl) (fun s => by kernel_rfl) PK.run (by kernel_rfl) (by kernel_rfl) (by kernel_rfl) (by rfl) (by first | assumption | decide +kernel) (by decide +kernel) ⟨rfl, rfl, rfl, rfl, rfl, by decide +kernel⟩ ?hw ?hc
  case hw => w_witness2
  case hc =>
    refine L2.walk_ofE (l := PySem.Challenge.rw_partkits_k39_whole_built_or_cases) (n := 63) (k := 15) (x := "_law_script") (CX := L2.CX0) rfl (by decide) (by kernel_rfl) ⟨rfl, by decide, by decide⟩ ?F (fun _ _ _ _ z => z)
    intro w mg fa h Y G hmg0
    obtain ⟨K, KX, c⟩ := Y
    have hmg : mg ("law" : PySem.Str) = some (.ref fa) := by
      have e : (HandSHeadRun.topDef (OpenLaw.row PySem.Challenge.rw_partkits_k39_whole_built_or_cases).prog 70).name = ("law" : PySem.Str) := by kernel_rfl
      rw [← e]
      exact hmg0
    obtain ⟨fd, hb, hF⟩ := PK.w_law (PK.Wd.mk c ⟨h, KX, G⟩) hmg
    exact ⟨K, fd, PK.spLaw K, KX, hb, fun H a ns hl _ hS => PK.law_sp hl hS, fun base _ _ => hF _ _ base⟩
end
