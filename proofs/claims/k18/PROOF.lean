import PyProof.Rows.All
import Wide.All
import OpenK.AllK
import Wide.FinOn
import HandS.ForMost
import HandS.TupSets
import HandS.Star
import HandS.Property
import HandS.OwnEq
import HandS.IsInst
import HandS.TupAny
import HandS.TupMul
import HandS.Style
import HandS.Deep
import HandS.Zip
import HandS.SlotsOwn
import KE.KTupSum
import HandS.Iter
import KE.DataMinMax
import HandS.Dict
import HandS.Conv
import KE.SortData
import KE.GoesEnum
import KE.KCallOwn
import PySem.Challenge.RW_packprices_k18_whole_carts_as_sums
/-! Plain Lean: packs, prices, needed packs (the mirror of packprices/lists.py) -/
namespace PK
abbrev Pack := Int × Int

/-- the least of a list of ints -/
def minL : List Int → Int
  | [] => 0
  | [a] => a
  | a :: b :: r => if a ≤ minL (b :: r) then a else minL (b :: r)
theorem minL_le : ∀ {l : List Int} {y : Int}, y ∈ l → minL l ≤ y
  | [a], y, h => by simp at h; subst h; exact Int.le_refl _
  | a :: b :: r, y, h => by
    unfold minL
    have ih : ∀ y, y ∈ b :: r → minL (b :: r) ≤ y := fun y hy => minL_le hy
    rcases List.mem_cons.mp h with e | e
    · subst e; split <;> omega
    · have := ih y e; split <;> omega
theorem minL_mem : ∀ {l : List Int}, l ≠ [] → minL l ∈ l
  | [a], _ => by simp [minL]
  | a :: b :: r, _ => by
    unfold minL
    have ih : minL (b :: r) ∈ b :: r := minL_mem (by simp)
    split
    · exact List.mem_cons_self
    · exact List.mem_cons_of_mem _ ih
theorem minL_eq {l : List Int} {m : Int} (hm : m ∈ l) (h : ∀ y ∈ l, m ≤ y) : minL l = m := by
  have h1 := minL_le hm
  have h2 := h _ (minL_mem (List.ne_nil_of_mem hm))
  omega

/-- the next price, behind a table -/
def nextP (packs : List Pack) (t : List Int) : Int := minL (packs.map fun p => p.2 + t.getD ((t.length : Int) - p.1).toNat 0)
/-- prices_by(packs, n) -/
def tab (packs : List Pack) : Nat → List Int
  | 0 => [0]
  | n + 1 => tab packs n ++ [nextP packs (tab packs n)]
theorem tab_len (packs : List Pack) : ∀ n, (tab packs n).length = n + 1
  | 0 => rfl
  | n + 1 => by unfold tab; rw [List.length_append, tab_len packs n]; rfl
/-- the price -/
def pr (packs : List Pack) (n : Nat) : Int := (tab packs n).getD n 0
theorem tab_getD (packs : List Pack) : ∀ (n k : Nat), k ≤ n → (tab packs n).getD k 0 = pr packs k
  | 0, k, h => by
    obtain rfl : k = 0 := by omega
    rfl
  | n + 1, k, h => by
    by_cases e : k = n + 1
    · subst e; rfl
    · have ih := tab_getD packs n k (by omega)
      rw [← ih]
      show (tab packs n ++ [nextP packs (tab packs n)]).getD k 0 = _
      rw [List.getD_eq_getElem?_getD, List.getElem?_append_left (by rw [tab_len]; omega), ← List.getD_eq_getElem?_getD]
theorem pr_zero (packs : List Pack) : pr packs 0 = 0 := rfl
theorem pr_succ (packs : List Pack) (hp : ∀ p ∈ packs, 1 ≤ p.1) (n : Nat) : pr packs (n + 1) = minL (packs.map fun p => p.2 + pr packs (n + 1 - p.1.toNat)) := by
  have h : pr packs (n + 1) = nextP packs (tab packs n) := by
    show (tab packs n ++ [nextP packs (tab packs n)]).getD (n + 1) 0 = _
    rw [List.getD_eq_getElem?_getD, List.getElem?_append_right (by rw [tab_len]; exact Nat.le_refl _)]
    rw [tab_len]; simp
  rw [h]
  unfold nextP
  congr 1
  apply List.map_congr_left
  intro p hpm
  have := hp p hpm
  rw [tab_len]
  have e : (((n + 1 : Nat) : Int) - p.1).toNat = n + 1 - p.1.toNat := by omega
  rw [e, tab_getD _ _ _ (by omega)]
theorem tab_eq (packs : List Pack) (n : Nat) : tab packs n = (List.range (n + 1)).map (pr packs) := by
  apply List.ext_getElem
  · rw [tab_len]; simp
  · intro i h1 h2
    have := tab_getD packs n i (by rw [tab_len] at h1; omega)
    rw [List.getD_eq_getElem?_getD, List.getElem?_eq_getElem h1] at this
    simpa using this

/-- best_pack(packs) -/
def bestOf (packs : List Pack) : Pack := packs.foldl (fun f p => if p.2 * f.1 < f.2 * p.1 then p else f) (packs.headD (1, 1))
/-- ascending, each once -/
def ltP (p q : Pack) : Bool := decide (p.1 < q.1) || (decide (p.1 = q.1) && decide (p.2 < q.2))
def insP (p : Pack) : List Pack → List Pack
  | [] => [p]
  | q :: r => if ltP p q then p :: q :: r else if p = q then q :: r else q :: insP p r
def srt : List Pack → List Pack
  | [] => []
  | p :: r => insP p (srt r)
/-- one turn of needed_of -/
def dropStep (found : List Pack) (pack : Pack) : List Pack :=
  let rest := found.filter fun o => decide (o ≠ pack)
  if rest ≠ [] ∧ pr rest pack.1.toNat ≤ pack.2 then rest else found
def neededOf (packs : List Pack) : List Pack := (srt packs).foldl dropStep (srt packs)
def lastOf (ps : List Pack) : Pack := ps.getLastD (1, 1)
/-- how far a price list knows its prices -/
def topOf (ps : List Pack) : Nat := ((bestOf ps).1 * (lastOf ps).1).toNat
def knownOf (ps : List Pack) : List Int := tab ps (topOf ps)
def OkPack (p : Pack) : Prop := 1 ≤ p.1 ∧ p.1 ≤ 30 ∧ 1 ≤ p.2 ∧ p.2 ≤ 1000000
/-- the needed packs of some price list -/
def OkShop (ps : List Pack) : Prop := ∃ qs : List Pack, qs ≠ [] ∧ (∀ q ∈ qs, OkPack q) ∧ ps = neededOf qs
/-- PriceList.price -/
def priceOf (ps : List Pack) (n : Int) : Int :=
  let last := topOf ps
  let b := bestOf ps
  if n ≤ last then pr ps n.toNat
  else
    let times := (n - last + b.1 - 1) / b.1
    pr ps (n - times * b.1).toNat + times * b.2
end PK
namespace PK
/-! ### sorted, each once -/
def LtP (p q : Pack) : Prop := p.1 < q.1 ∨ (p.1 = q.1 ∧ p.2 < q.2)
theorem ltP_iff {p q : Pack} : ltP p q = true ↔ LtP p q := by unfold ltP LtP; simp
theorem LtP.irrefl {p : Pack} (h : LtP p p) : False := by unfold LtP at h; omega
theorem LtP.trans {p q r : Pack} (a : LtP p q) (b : LtP q r) : LtP p r := by unfold LtP at *; omega
theorem LtP.tri (p q : Pack) : LtP p q ∨ p = q ∨ LtP q p := by
  obtain ⟨a, b⟩ := p; obtain ⟨c, d⟩ := q
  unfold LtP; simp only [Prod.mk.injEq]; omega
def Asc (l : List Pack) : Prop := l.Pairwise LtP
theorem mem_insP {p x : Pack} : ∀ {l : List Pack}, x ∈ insP p l ↔ x = p ∨ x ∈ l
  | [] => by simp [insP]
  | q :: r => by
    unfold insP
    split
    · simp
    · split
      · rename_i h; subst h; simp
      · simp only [List.mem_cons, mem_insP (l := r)]
        constructor
        · rintro (h | h | h)
          · exact .inr (.inl h)
          · exact .inl h
          · exact .inr (.inr h)
        · rintro (h | h | h)
          · exact .inr (.inl h)
          · exact .inl h
          · exact .inr (.inr h)
theorem asc_insP {p : Pack} : ∀ {l : List Pack}, Asc l → Asc (insP p l)
  | [], _ => by simp [insP, Asc]
  | q :: r, h => by
    unfold insP
    obtain ⟨h1, h2⟩ := List.pairwise_cons.mp h
    split
    · rename_i hl
      have hl := ltP_iff.mp hl
      refine List.pairwise_cons.mpr ⟨fun x hx => ?_, h⟩
      rcases List.mem_cons.mp hx with e | hx
      · subst e; exact hl
      · exact hl.trans (h1 x hx)
    · rename_i hl
      split
      · exact h
      · rename_i hne
        refine List.pairwise_cons.mpr ⟨fun x hx => ?_, asc_insP h2⟩
        rcases mem_insP.mp hx with e | hx
        · subst e
          rcases LtP.tri q x with h | h | h
          · exact h
          · exact absurd h.symm hne
          · exact absurd (ltP_iff.mpr h) hl
        · exact h1 x hx
theorem mem_srt {x : Pack} : ∀ {l : List Pack}, x ∈ srt l ↔ x ∈ l
  | [] => by simp [srt]
  | p :: r => by unfold srt; rw [mem_insP, mem_srt (l := r), List.mem_cons]
theorem asc_srt : ∀ l : List Pack, Asc (srt l)
  | [] => by simp [srt, Asc]
  | p :: r => by unfold srt; exact asc_insP (asc_srt r)
theorem asc_unique : ∀ {l m : List Pack}, Asc l → Asc m → (∀ x, x ∈ l ↔ x ∈ m) → l = m
  | [], [], _, _, _ => rfl
  | [], q :: r, _, _, h => by have := (h q).mpr List.mem_cons_self; simp at this
  | p :: r, [], _, _, h => by have := (h p).mp List.mem_cons_self; simp at this
  | p :: r, q :: t, hl, hm, h => by
    obtain ⟨l1, l2⟩ := List.pairwise_cons.mp hl
    obtain ⟨m1, m2⟩ := List.pairwise_cons.mp hm
    have e : p = q := by
      rcases List.mem_cons.mp ((h p).mp List.mem_cons_self) with e | e
      · exact e
      · rcases List.mem_cons.mp ((h q).mpr List.mem_cons_self) with e' | e'
        · exact e'.symm
        · exact ((m1 p e).trans (l1 q e')).irrefl.elim
    subst e
    have : r = t := asc_unique l2 m2 fun x => by
      constructor
      · intro hx
        rcases List.mem_cons.mp ((h x).mp (List.mem_cons_of_mem _ hx)) with e | e
        · subst e; exact ((l1 x hx).irrefl).elim
        · exact e
      · intro hx
        rcases List.mem_cons.mp ((h x).mpr (List.mem_cons_of_mem _ hx)) with e | e
        · subst e; exact ((m1 x hx).irrefl).elim
        · exact e
    rw [this]
theorem Asc.nodup {l : List Pack} (h : Asc l) : l.Nodup := h.imp fun {a b} q e => by subst e; exact q.irrefl
theorem srt_len (l : List Pack) : (srt l).length ≤ l.length := by
  induction l with
  | nil => exact Nat.le_refl _
  | cons p r ih =>
    unfold srt
    have : ∀ (m : List Pack), (insP p m).length ≤ m.length + 1 := by
      intro m
      induction m with
      | nil => simp [insP]
      | cons q t ih => unfold insP; split; · simp
                       · split
                         · simp
                         · simp only [List.length_cons]; omega
    have := this (srt r)
    simp only [List.length_cons]; omega
end PK
namespace PK
/-! ### the needed packs are packs -/
theorem mem_dropStep {found : List Pack} {p x : Pack} (h : x ∈ dropStep found p) : x ∈ found := by
  unfold dropStep at h
  dsimp only at h
  split at h
  · exact (List.mem_filter.mp h).1
  · exact h
theorem dropStep_ne {found : List Pack} {p : Pack} (h : found ≠ []) : dropStep found p ≠ [] := by
  unfold dropStep
  dsimp only
  split
  · rename_i q; exact q.1
  · exact h
theorem mem_foldDrop : ∀ (l found : List Pack) (x : Pack), x ∈ l.foldl dropStep found → x ∈ found
  | [], _, _, h => h
  | p :: r, found, x, h => mem_dropStep (mem_foldDrop r (dropStep found p) x h)
theorem foldDrop_ne : ∀ (l found : List Pack), found ≠ [] → l.foldl dropStep found ≠ []
  | [], _, h => h
  | _ :: r, _, h => foldDrop_ne r _ (dropStep_ne h)
theorem dropStep_len (found : List Pack) (p : Pack) : (dropStep found p).length ≤ found.length := by
  unfold dropStep
  dsimp only
  split
  · exact List.length_filter_le _ _
  · exact Nat.le_refl _
theorem foldDrop_len : ∀ (l found : List Pack), (l.foldl dropStep found).length ≤ found.length
  | [], _ => Nat.le_refl _
  | p :: r, found => Nat.le_trans (foldDrop_len r _) (dropStep_len found p)
theorem srt_ne {l : List Pack} (h : l ≠ []) : srt l ≠ [] := by
  intro e
  obtain ⟨x, hx⟩ := List.exists_mem_of_ne_nil l h
  have := mem_srt.mpr hx
  rw [e] at this; simp at this
theorem mem_neededOf {l : List Pack} {x : Pack} (h : x ∈ neededOf l) : x ∈ l := mem_srt.mp (mem_foldDrop _ _ _ h)
theorem neededOf_ne {l : List Pack} (h : l ≠ []) : neededOf l ≠ [] := foldDrop_ne _ _ (srt_ne h)
theorem neededOf_len (l : List Pack) : (neededOf l).length ≤ l.length := Nat.le_trans (foldDrop_len _ _) (srt_len l)
theorem foldBest_mem : ∀ (l : List Pack) (f : Pack), l.foldl (fun f p => if p.2 * f.1 < f.2 * p.1 then p else f) f = f ∨ l.foldl (fun f p => if p.2 * f.1 < f.2 * p.1 then p else f) f ∈ l
  | [], f => .inl rfl
  | p :: r, f => by
    rw [List.foldl_cons]
    by_cases c : p.2 * f.1 < f.2 * p.1
    · rw [if_pos c]
      rcases foldBest_mem r p with h | h
      · rw [h]; exact .inr List.mem_cons_self
      · exact .inr (List.mem_cons_of_mem _ h)
    · rw [if_neg c]
      rcases foldBest_mem r f with h | h
      · exact .inl h
      · exact .inr (List.mem_cons_of_mem _ h)
theorem bestOf_mem {l : List Pack} (h : l ≠ []) : bestOf l ∈ l := by
  unfold bestOf
  rcases foldBest_mem l (l.headD (1, 1)) with e | e
  · rw [e]
    cases l with
    | nil => exact absurd rfl h
    | cons p r => exact List.mem_cons_self
  · exact e
theorem lastOf_mem {l : List Pack} (h : l ≠ []) : lastOf l ∈ l := by
  unfold lastOf
  cases l with
  | nil => exact absurd rfl h
  | cons p r => simp only [List.getLastD]; exact List.getLast_mem _
theorem OkShop.ne {ps : List Pack} (h : OkShop ps) : ps ≠ [] := by
  obtain ⟨qs, h1, h2, rfl⟩ := h; exact neededOf_ne h1
theorem OkShop.ok {ps : List Pack} (h : OkShop ps) : ∀ p ∈ ps, OkPack p := by
  obtain ⟨qs, h1, h2, rfl⟩ := h; exact fun p hp => h2 p (mem_neededOf hp)
end PK

/-! Plain Lean: the theory of prices. -/
namespace PK
/-- packs of a shop: sizes and prices at least 1 -/
structure Pks (ps : List Pack) : Prop where
  ne : ps ≠ []
  s : ∀ p ∈ ps, 1 ≤ p.1
  c : ∀ p ∈ ps, 1 ≤ p.2
section
variable {ps qs : List Pack}
theorem pr_le (h : Pks ps) {p : Pack} (hp : p ∈ ps) (n : Nat) : pr ps n ≤ p.2 + pr ps (n - p.1.toNat) := by
  cases n with
  | zero => rw [pr_zero, Nat.zero_sub, pr_zero]; have := h.c p hp; omega
  | succ n => rw [pr_succ ps h.s]; exact minL_le (List.mem_map.mpr ⟨p, hp, rfl⟩)
theorem pr_ex (h : Pks ps) {n : Nat} (hn : 1 ≤ n) : ∃ p ∈ ps, pr ps n = p.2 + pr ps (n - p.1.toNat) := by
  obtain ⟨m, rfl⟩ : ∃ m, n = m + 1 := ⟨n - 1, by omega⟩
  have := minL_mem (l := ps.map fun p => p.2 + pr ps (m + 1 - p.1.toNat)) (by simpa using h.ne)
  rw [← pr_succ ps h.s m] at this
  obtain ⟨p, hp, e⟩ := List.mem_map.mp this
  exact ⟨p, hp, e.symm⟩
/-- the price is the greatest function below the packs -/
theorem pr_ind (h : Pks ps) {f : Nat → Int} (h0 : f 0 ≤ 0) (hs : ∀ n, 1 ≤ n → ∀ p ∈ ps, f n ≤ p.2 + f (n - p.1.toNat)) : ∀ n, f n ≤ pr ps n := by
  intro n
  induction n using Nat.strongRecOn with
  | _ n ih =>
    cases n with
    | zero => rw [pr_zero]; exact h0
    | succ n =>
      obtain ⟨p, hp, e⟩ := pr_ex h (n := n + 1) (by omega)
      have h1 := h.s p hp
      have h2 := hs (n + 1) (by omega) p hp
      have h3 := ih (n + 1 - p.1.toNat) (by omega)
      omega
theorem pr_nonneg (h : Pks ps) (n : Nat) : 0 ≤ pr ps n := pr_ind h (f := fun _ => 0) (Int.le_refl _) (fun n _ p hp => by have := h.c p hp; omega) n
theorem pr_mono1 (h : Pks ps) (n : Nat) : pr ps n ≤ pr ps (n + 1) := by
  induction n using Nat.strongRecOn with
  | _ n ih =>
    obtain ⟨p, hp, e⟩ := pr_ex h (n := n + 1) (by omega)
    have hs := h.s p hp
    by_cases hle : n ≤ p.1.toNat - 1
    · have e1 : n + 1 - p.1.toNat = 0 := by omega
      have e2 : n - p.1.toNat = 0 := by omega
      have := pr_le h hp n
      rw [e1] at e; rw [e2] at this
      omega
    · have := pr_le h hp n
      have h2 := ih (n - p.1.toNat) (by omega)
      have e1 : n + 1 - p.1.toNat = (n - p.1.toNat) + 1 := by omega
      rw [e1] at e
      omega
theorem pr_mono (h : Pks ps) {a b : Nat} (hab : a ≤ b) : pr ps a ≤ pr ps b := by
  induction b with
  | zero => obtain rfl : a = 0 := by omega
            exact Int.le_refl _
  | succ b ih =>
    by_cases e : a = b + 1
    · subst e; exact Int.le_refl _
    · exact Int.le_trans (ih (by omega)) (pr_mono1 h b)
theorem pr_pos (h : Pks ps) {n : Nat} (hn : 1 ≤ n) : 1 ≤ pr ps n := by
  obtain ⟨p, hp, e⟩ := pr_ex h hn
  have := h.c p hp
  have := pr_nonneg h (n - p.1.toNat)
  omega
theorem pr_add (h : Pks ps) (a b : Nat) : pr ps (a + b) ≤ pr ps a + pr ps b := by
  induction a using Nat.strongRecOn with
  | _ a ih =>
    cases a with
    | zero => rw [Nat.zero_add, pr_zero]; omega
    | succ a =>
      obtain ⟨p, hp, e⟩ := pr_ex h (n := a + 1) (by omega)
      have hs := h.s p hp
      have h1 := pr_le h hp (a + 1 + b)
      have h2 := ih (a + 1 - p.1.toNat) (by omega)
      have h3 : pr ps (a + 1 + b - p.1.toNat) ≤ pr ps (a + 1 - p.1.toNat + b) := pr_mono h (by omega)
      omega
/-- one list is nowhere dearer than another if it is not for the other's packs -/
theorem pr_cmp (h : Pks ps) (h' : Pks qs) (hq : ∀ q ∈ qs, pr ps q.1.toNat ≤ q.2) (n : Nat) : pr ps n ≤ pr qs n := by
  refine pr_ind h' (f := pr ps) (Int.le_of_eq (pr_zero ps)) (fun n hn q hq' => ?_) n
  have h1 := hq q hq'
  have h2 := pr_add h q.1.toNat (n - q.1.toNat)
  have h3 : pr ps n ≤ pr ps (q.1.toNat + (n - q.1.toNat)) := pr_mono h (by omega)
  omega
theorem pr_self (h : Pks ps) {p : Pack} (hp : p ∈ ps) : pr ps p.1.toNat ≤ p.2 := by
  have := pr_le h hp p.1.toNat
  rw [Nat.sub_self, pr_zero] at this
  omega
theorem pr_sub (h : Pks ps) (h' : Pks qs) (hs : ∀ p ∈ qs, p ∈ ps) (n : Nat) : pr ps n ≤ pr qs n := pr_cmp h h' (fun q hq => pr_self h (hs q hq)) n
theorem Pks.of_mem (h : Pks ps) (hn : qs ≠ []) (hs : ∀ p ∈ qs, p ∈ ps) : Pks qs := ⟨hn, fun p hp => h.s p (hs p hp), fun p hp => h.c p (hs p hp)⟩
theorem pr_congr (h : Pks ps) (h' : ∀ p, p ∈ ps ↔ p ∈ qs) (n : Nat) : pr ps n = pr qs n := by
  have hq : Pks qs := h.of_mem (fun e => by obtain ⟨x, hx⟩ := List.exists_mem_of_ne_nil ps h.ne; have := (h' x).mp hx; rw [e] at this; simp at this) fun p hp => (h' p).mpr hp
  exact Int.le_antisymm (pr_sub h hq (fun p hp => (h' p).mpr hp) n) (pr_sub hq h (fun p hp => (h' p).mp hp) n)
/-- purchases -/
def cost (l : List Pack) : Int := (l.map (·.2)).sum
def size (l : List Pack) : Nat := (l.map fun p => p.1.toNat).sum
theorem cost_cons (p : Pack) (l : List Pack) : cost (p :: l) = p.2 + cost l := by simp [cost]
theorem size_cons (p : Pack) (l : List Pack) : size (p :: l) = p.1.toNat + size l := by simp [size]
theorem cost_app (l m : List Pack) : cost (l ++ m) = cost l + cost m := by simp [cost]
theorem size_app (l m : List Pack) : size (l ++ m) = size l + size m := by simp [size]
theorem pr_buy (h : Pks ps) : ∀ {l : List Pack} {n : Nat}, (∀ p ∈ l, p ∈ ps) → n ≤ size l → pr ps n ≤ cost l
  | [], n, _, hn => by
    have : n = 0 := by simpa [size] using hn
    subst this; rw [pr_zero]; simp [cost]
  | p :: r, n, hl, hn => by
    rw [size_cons] at hn
    rw [cost_cons]
    have h1 := pr_le h (hl p List.mem_cons_self) n
    have h2 := pr_buy h (l := r) (n := n - p.1.toNat) (fun q hq => hl q (List.mem_cons_of_mem _ hq)) (by omega)
    omega
theorem pr_best (h : Pks ps) : ∀ n : Nat, ∃ l : List Pack, (∀ p ∈ l, p ∈ ps) ∧ n ≤ size l ∧ cost l = pr ps n := by
  intro n
  induction n using Nat.strongRecOn with
  | _ n ih =>
    cases n with
    | zero => exact ⟨[], by simp, by simp [size], by rw [pr_zero]; rfl⟩
    | succ n =>
      obtain ⟨p, hp, e⟩ := pr_ex h (n := n + 1) (by omega)
      have hs := h.s p hp
      obtain ⟨l, h1, h2, h3⟩ := ih (n + 1 - p.1.toNat) (by omega)
      refine ⟨p :: l, fun q hq => ?_, by rw [size_cons]; omega, by rw [cost_cons, h3, e]⟩
      rcases List.mem_cons.mp hq with e | e
      · subst e; exact hp
      · exact h1 q e
/-! ### the best pack -/
/-- b has the lowest price by the piece -/
structure Best (ps : List Pack) (b : Pack) : Prop where
  mem : b ∈ ps
  rate : ∀ p ∈ ps, b.2 * p.1 ≤ p.2 * b.1
theorem pr_rate (h : Pks ps) {b : Pack} (hb : Best ps b) (n : Nat) : (n : Int) * b.2 ≤ pr ps n * b.1 := by
  have b1 := h.s b hb.mem
  induction n using Nat.strongRecOn with
  | _ n ih =>
    cases n with
    | zero => rw [pr_zero]; simp
    | succ n =>
      obtain ⟨p, hp, e⟩ := pr_ex h (n := n + 1) (by omega)
      have hs := h.s p hp
      have h1 := ih (n + 1 - p.1.toNat) (by omega)
      have h2 := hb.rate p hp
      have b2 := h.c b hb.mem
      rw [e, Int.add_mul]
      have h3 : ((n + 1 : Nat) : Int) ≤ p.1 + ((n + 1 - p.1.toNat : Nat) : Int) := by omega
      have h4 : ((n + 1 : Nat) : Int) * b.2 ≤ (p.1 + ((n + 1 - p.1.toNat : Nat) : Int)) * b.2 := Int.mul_le_mul_of_nonneg_right h3 (by omega)
      rw [Int.add_mul] at h4
      have h5 : p.1 * b.2 = b.2 * p.1 := Int.mul_comm _ _
      omega
theorem cost_rate {b : Pack} (hb : Best ps b) : ∀ {l : List Pack}, (∀ p ∈ l, p ∈ ps) → (∀ p ∈ l, 1 ≤ p.1) → (size l : Int) * b.2 ≤ cost l * b.1
  | [], _, _ => by simp [size, cost]
  | p :: r, hl, h1 => by
    have ih := cost_rate hb (l := r) (fun q hq => hl q (List.mem_cons_of_mem _ hq)) (fun q hq => h1 q (List.mem_cons_of_mem _ hq))
    have h2 := hb.rate p (hl p List.mem_cons_self)
    have h3 := h1 p List.mem_cons_self
    rw [size_cons, cost_cons, Int.add_mul]
    have e : ((p.1.toNat + size r : Nat) : Int) = p.1 + (size r : Int) := by omega
    rw [e, Int.add_mul]
    have h5 : p.1 * b.2 = b.2 * p.1 := Int.mul_comm _ _
    omega
/-- many best packs -/
theorem pr_many (h : Pks ps) {b : Pack} (hb : b ∈ ps) (n : Nat) : ∀ k : Nat, pr ps n ≤ (k : Int) * b.2 + pr ps (n - k * b.1.toNat)
  | 0 => by simp
  | k + 1 => by
    have ih := pr_many h hb n k
    have h1 := pr_le h hb (n - k * b.1.toNat)
    have e : n - k * b.1.toNat - b.1.toNat = n - (k + 1) * b.1.toNat := by rw [Nat.add_mul, Nat.one_mul]; omega
    rw [e] at h1
    have e2 : ((k + 1 : Nat) : Int) * b.2 = (k : Int) * b.2 + b.2 := by
      have : ((k + 1 : Nat) : Int) = (k : Int) + 1 := by omega
      rw [this, Int.add_mul, Int.one_mul]
    omega
/-! ### pigeons -/
theorem pigeon : ∀ (m : Nat) (f : Nat → Nat), (∀ i, i ≤ m → f i < m) → ∃ i j, i < j ∧ j ≤ m ∧ f i = f j := by
  intro m
  induction m with
  | zero => intro f h; exact absurd (h 0 (Nat.le_refl _)) (by omega)
  | succ m ih =>
    intro f h
    by_cases hx : ∃ i, i ≤ m ∧ f i = f (m + 1)
    · obtain ⟨i, hi, e⟩ := hx
      exact ⟨i, m + 1, by omega, Nat.le_refl _, e⟩
    · -- move the value m into the place of f (m + 1)
      let v := f (m + 1)
      let f' := fun i => if f i = m then v else f i
      have hv : ∀ i, i ≤ m → f i ≠ v := fun i hi e => hx ⟨i, hi, e⟩
      have h' : ∀ i, i ≤ m → f' i < m := fun i hi => by
        show (if f i = m then v else f i) < m
        have h1 := h i (by omega)
        have h2 := h (m + 1) (Nat.le_refl _)
        by_cases e : f i = m
        · rw [if_pos e]
          have : v ≠ m := fun q => hv i hi (e.trans q.symm)
          have : v < m + 1 := h2
          omega
        · rw [if_neg e]; omega
      obtain ⟨i, j, hij, hj, e⟩ := ih f' h'
      refine ⟨i, j, hij, by omega, ?_⟩
      have e : (if f i = m then v else f i) = (if f j = m then v else f j) := e
      by_cases c1 : f i = m <;> by_cases c2 : f j = m
      · rw [c1, c2]
      · rw [if_pos c1, if_neg c2] at e; exact absurd e.symm (hv j hj)
      · rw [if_neg c1, if_pos c2] at e; exact absurd e (hv i (by omega))
      · rw [if_neg c1, if_neg c2] at e; exact e
/-- in a long purchase some packs in a row have a size that b divides -/
theorem segment (b : Nat) (hb : 1 ≤ b) (l : List Pack) (hl : b ≤ l.length) (h1 : ∀ p ∈ l, 1 ≤ p.1) : ∃ A M B, l = A ++ M ++ B ∧ ∃ k, 1 ≤ k ∧ size M = k * b := by
  obtain ⟨i, j, hij, hj, e⟩ := pigeon b (fun i => size (l.take i) % b) (fun i _ => Nat.mod_lt _ hb)
  refine ⟨l.take i, (l.take j).drop i, l.drop j, ?_, size ((l.take j).drop i) / b, ?_⟩
  · have a1 : l.take i = (l.take j).take i := by rw [List.take_take, Nat.min_eq_left (by omega)]
    rw [a1, List.take_append_drop, List.take_append_drop]
  · have a1 : l.take i = (l.take j).take i := by rw [List.take_take, Nat.min_eq_left (by omega)]
    have a2 : size (l.take j) = size (l.take i) + size ((l.take j).drop i) := by
      rw [a1, ← size_app, List.take_append_drop]
    have e : size (l.take i) % b = size (l.take j) % b := e
    have dv : b ∣ size ((l.take j).drop i) := by
      rw [a2] at e
      have := Nat.sub_mod_eq_zero_of_mod_eq e.symm
      rw [Nat.add_sub_cancel_left] at this
      exact Nat.dvd_of_mod_eq_zero this
    obtain ⟨k, hk⟩ := dv
    have hne : 1 ≤ size ((l.take j).drop i) := by
      have hlen : 1 ≤ ((l.take j).drop i).length := by rw [List.length_drop, List.length_take]; omega
      cases hd : (l.take j).drop i with
      | nil => rw [hd] at hlen; simp at hlen
      | cons p r =>
        rw [size_cons]
        have : p ∈ l := List.mem_of_mem_take (List.mem_of_mem_drop (by rw [hd]; exact List.mem_cons_self))
        have := h1 p this
        omega
    rw [hk] at hne ⊢
    rw [Nat.mul_div_cancel_left _ hb]
    refine ⟨?_, Nat.mul_comm _ _⟩
    cases k with
    | zero => rw [Nat.mul_zero] at hne; omega
    | succ k => omega
theorem size_le {m : Nat} : ∀ {l : List Pack}, (∀ p ∈ l, p.1.toNat ≤ m) → size l ≤ l.length * m
  | [], _ => by simp [size]
  | p :: r, h => by
    have ih := size_le (l := r) fun q hq => h q (List.mem_cons_of_mem _ hq)
    have := h p List.mem_cons_self
    rw [size_cons, List.length_cons, Nat.add_mul, Nat.one_mul]
    omega
/-- prices go on by the best pack -/
theorem pr_period (h : Pks ps) {b : Pack} (hb : Best ps b) {m : Nat} (hm : ∀ p ∈ ps, p.1.toNat ≤ m) {n : Nat} (hn : b.1.toNat * m < n) : pr ps n = b.2 + pr ps (n - b.1.toNat) := by
  refine Int.le_antisymm (pr_le h hb.mem n) ?_
  have b1 := h.s b hb.mem
  have b2 := h.c b hb.mem
  obtain ⟨l, h1, h2, h3⟩ := pr_best h n
  have hl : b.1.toNat ≤ l.length := by
    have := size_le (l := l) (m := m) fun p hp => hm p (h1 p hp)
    have h4 : b.1.toNat * m < l.length * m := by omega
    exact Nat.le_of_lt (Nat.lt_of_mul_lt_mul_right h4)
  obtain ⟨A, M, B, e, k, hk, hM⟩ := segment b.1.toNat (by omega) l hl fun p hp => h.s p (h1 p hp)
  subst e
  have hM1 : ∀ p ∈ M, p ∈ ps := fun p hp => h1 p (by simp [hp])
  have rt := cost_rate hb hM1 fun p hp => h.s p (hM1 p hp)
  have hc : (k : Int) * b.2 ≤ cost M := by
    rw [hM] at rt
    have e1 : ((k * b.1.toNat : Nat) : Int) * b.2 = ((k : Int) * b.2) * b.1 := by
      have : ((k * b.1.toNat : Nat) : Int) = (k : Int) * b.1 := by
        rw [Int.natCast_mul]; congr 1; omega
      rw [this, Int.mul_assoc, Int.mul_comm b.1 b.2, ← Int.mul_assoc]
    rw [e1] at rt
    exact Int.le_of_mul_le_mul_right rt (by omega)
  have hAB : pr ps (n - k * b.1.toNat) ≤ cost (A ++ B) := pr_buy h (fun p hp => h1 p (by simp at hp ⊢; rcases hp with q | q; exact .inl q; exact .inr (.inr q))) (by
    rw [size_app]
    rw [size_app, size_app, hM] at h2
    omega)
  have mm := pr_many h hb.mem (n - b.1.toNat) (k - 1)
  have e2 : n - b.1.toNat - (k - 1) * b.1.toNat = n - k * b.1.toNat := by
    have : k * b.1.toNat = (k - 1) * b.1.toNat + b.1.toNat := by
      rw [← Nat.succ_mul]; congr 1; omega
    omega
  rw [e2] at mm
  have e3 : ((k - 1 : Nat) : Int) * b.2 = (k : Int) * b.2 - b.2 := by
    have : ((k - 1 : Nat) : Int) = (k : Int) - 1 := by omega
    rw [this, Int.sub_mul, Int.one_mul]
  have e4 : cost (A ++ M ++ B) = cost (A ++ B) + cost M := by simp only [cost_app]; omega
  rw [e4] at h3
  omega
end
end PK
namespace PK
section
variable {ps qs : List Pack}
theorem OkPack.pks (hne : ps ≠ []) (h : ∀ p ∈ ps, OkPack p) : Pks ps := ⟨hne, fun p hp => (h p hp).1, fun p hp => (h p hp).2.2.1⟩
/-! ### the needed packs have the same prices -/
theorem dropStep_pr {found : List Pack} (h : Pks found) (p : Pack) (n : Nat) : pr (dropStep found p) n = pr found n := by
  unfold dropStep
  dsimp only
  split
  · rename_i q
    obtain ⟨hne, hle⟩ := q
    have hsub : ∀ x ∈ found.filter (fun o => decide (o ≠ p)), x ∈ found := fun x hx => (List.mem_filter.mp hx).1
    have h' := h.of_mem hne hsub
    refine Int.le_antisymm (pr_cmp h' h (fun q hq => ?_) n) (pr_sub h h' hsub n)
    by_cases e : q = p
    · subst e; exact hle
    · exact pr_self h' (List.mem_filter.mpr ⟨hq, by simpa using e⟩)
  · rfl
theorem foldDrop_pr : ∀ (l : List Pack) {found : List Pack}, Pks found → ∀ n, pr (l.foldl dropStep found) n = pr found n
  | [], _, _, _ => rfl
  | p :: r, found, h, n => by
    rw [List.foldl_cons, foldDrop_pr r (h.of_mem (dropStep_ne h.ne) fun x hx => mem_dropStep hx) n, dropStep_pr h]
theorem neededOf_pr (h : Pks ps) (n : Nat) : pr (neededOf ps) n = pr ps n := by
  have hs : Pks (srt ps) := h.of_mem (srt_ne h.ne) fun p hp => mem_srt.mp hp
  unfold neededOf
  rw [foldDrop_pr _ hs]
  exact pr_congr hs (fun p => mem_srt) n
theorem OkShop.pks (h : OkShop ps) : Pks ps := OkPack.pks h.ne h.ok
theorem foldBest_rate : ∀ (l : List Pack) (f : Pack), 1 ≤ f.1 → (∀ p ∈ l, 1 ≤ p.1) → ∀ q, (q = f ∨ q ∈ l) →
    (l.foldl (fun f p => if p.2 * f.1 < f.2 * p.1 then p else f) f).2 * q.1 ≤ q.2 * (l.foldl (fun f p => if p.2 * f.1 < f.2 * p.1 then p else f) f).1
  | [], f, _, _, q, hq => by
    rcases hq with e | e
    · subst e; exact Int.le_refl _
    · simp at e
  | p :: r, f, hf, hl, q, hq => by
    rw [List.foldl_cons]
    have hp := hl p List.mem_cons_self
    have hr : ∀ p ∈ r, 1 ≤ p.1 := fun x hx => hl x (List.mem_cons_of_mem _ hx)
    have key : ∀ g, 1 ≤ g.1 → (∀ q, (q = f ∨ q = p) → g.2 * q.1 ≤ q.2 * g.1) → (r.foldl (fun f p => if p.2 * f.1 < f.2 * p.1 then p else f) g).2 * q.1 ≤ q.2 * (r.foldl (fun f p => if p.2 * f.1 < f.2 * p.1 then p else f) g).1 := fun g hg hgq => by
      by_cases hqr : q ∈ r
      · exact foldBest_rate r g hg hr q (.inr hqr)
      · have hq2 : q = f ∨ q = p := by
          rcases hq with e | e
          · exact .inl e
          · rcases List.mem_cons.mp e with e | e
            · exact .inr e
            · exact absurd e hqr
        have h1 := hgq q hq2
        have h2 := foldBest_rate r g hg hr g (.inl rfl)
        have hb1 : 1 ≤ (r.foldl (fun f p => if p.2 * f.1 < f.2 * p.1 then p else f) g).1 := by
          rcases foldBest_mem r g with e | e
          · rw [e]; exact hg
          · exact hr _ e
        generalize r.foldl (fun f p => if p.2 * f.1 < f.2 * p.1 then p else f) g = b at h2 hb1 ⊢
        -- b.2 * g.1 ≤ g.2 * b.1, g.2 * q.1 ≤ q.2 * g.1
        have q1 : 1 ≤ q.1 := by rcases hq2 with e | e <;> subst e <;> assumption
        have h3 : (b.2 * g.1) * q.1 ≤ (g.2 * b.1) * q.1 := Int.mul_le_mul_of_nonneg_right h2 (by omega)
        have h4 : (g.2 * q.1) * b.1 ≤ (q.2 * g.1) * b.1 := Int.mul_le_mul_of_nonneg_right h1 (by omega)
        have e1 : (g.2 * b.1) * q.1 = (g.2 * q.1) * b.1 := by rw [Int.mul_assoc, Int.mul_comm b.1 q.1, ← Int.mul_assoc]
        have e2 : (b.2 * g.1) * q.1 = (b.2 * q.1) * g.1 := by rw [Int.mul_assoc, Int.mul_comm g.1 q.1, ← Int.mul_assoc]
        have e3 : (q.2 * g.1) * b.1 = (q.2 * b.1) * g.1 := by rw [Int.mul_assoc, Int.mul_comm g.1 b.1, ← Int.mul_assoc]
        have h5 : (b.2 * q.1) * g.1 ≤ (q.2 * b.1) * g.1 := by rw [← e2, ← e3]; rw [e1] at h3; exact Int.le_trans h3 h4
        exact Int.le_of_mul_le_mul_right h5 (by omega)
    by_cases c : p.2 * f.1 < f.2 * p.1
    · rw [if_pos c]
      refine key p hp fun q hq => ?_
      rcases hq with e | e <;> subst e
      · omega
      · exact Int.le_refl _
    · rw [if_neg c]
      refine key f hf fun q hq => ?_
      rcases hq with e | e <;> subst e
      · exact Int.le_refl _
      · omega
theorem bestOf_best (h : Pks ps) : Best ps (bestOf ps) := by
  refine ⟨bestOf_mem h.ne, fun p hp => ?_⟩
  unfold bestOf
  refine foldBest_rate ps _ ?_ h.s p (.inr hp)
  cases ps with
  | nil => exact absurd rfl h.ne
  | cons q r => exact h.s q List.mem_cons_self
theorem asc_dropStep {found : List Pack} (h : Asc found) (p : Pack) : Asc (dropStep found p) := by
  unfold dropStep
  dsimp only
  split
  · exact h.filter _
  · exact h
theorem asc_foldDrop : ∀ (l : List Pack) {found : List Pack}, Asc found → Asc (l.foldl dropStep found)
  | [], _, h => h
  | p :: r, _, h => asc_foldDrop r (asc_dropStep h p)
theorem asc_neededOf (ps : List Pack) : Asc (neededOf ps) := asc_foldDrop _ (asc_srt ps)
theorem asc_last : ∀ {l : List Pack} {d : Pack}, Asc l → ∀ p ∈ l, p.1 ≤ (l.getLastD d).1
  | [], _, _, p, hp => by simp at hp
  | [a], _, _, p, hp => by simp at hp; subst hp; exact Int.le_refl _
  | a :: b :: r, d, h, p, hp => by
    obtain ⟨h1, h2⟩ := List.pairwise_cons.mp h
    have ih : ∀ p ∈ b :: r, p.1 ≤ ((b :: r).getLastD d).1 := fun p hp => asc_last (d := d) h2 p hp
    have e : (a :: b :: r).getLastD d = (b :: r).getLastD d := by simp [List.getLastD]
    rw [e]
    rcases List.mem_cons.mp hp with e | e
    · subst e
      have := h1 b List.mem_cons_self
      have h3 := ih b List.mem_cons_self
      unfold LtP at this
      omega
    · exact ih p e
theorem OkShop.asc (h : OkShop ps) : Asc ps := by
  obtain ⟨qs, _, _, rfl⟩ := h; exact asc_neededOf qs
theorem OkShop.top (h : OkShop ps) : topOf ps = (bestOf ps).1.toNat * (lastOf ps).1.toNat := by
  unfold topOf
  have h1 := (h.ok _ (bestOf_mem h.ne)).1
  have h2 := (h.ok _ (lastOf_mem h.ne)).1
  rw [Int.toNat_mul (by omega) (by omega)]
theorem OkShop.period (h : OkShop ps) {n : Nat} (hn : topOf ps < n) : pr ps n = (bestOf ps).2 + pr ps (n - (bestOf ps).1.toNat) := by
  rw [h.top] at hn
  exact pr_period h.pks (bestOf_best h.pks) (fun p hp => by have := asc_last (d := (1, 1)) h.asc p hp; unfold lastOf; omega) hn
theorem OkShop.periods (h : OkShop ps) : ∀ (t n : Nat), (t = 0 ∨ topOf ps < n - (t - 1) * (bestOf ps).1.toNat) → pr ps n = (t : Int) * (bestOf ps).2 + pr ps (n - t * (bestOf ps).1.toNat)
  | 0, n, _ => by simp
  | t + 1, n, hn => by
    have b1 := (h.ok _ (bestOf_mem h.ne)).1
    have hn : topOf ps < n - t * (bestOf ps).1.toNat := by
      rcases hn with e | e
      · omega
      · simpa using e
    have ih := OkShop.periods h t n (by
      by_cases e : t = 0
      · exact .inl e
      · right
        have : t * (bestOf ps).1.toNat = (t - 1) * (bestOf ps).1.toNat + (bestOf ps).1.toNat := by rw [← Nat.succ_mul]; congr 1; omega
        omega)
    have h1 := h.period hn
    have e : n - t * (bestOf ps).1.toNat - (bestOf ps).1.toNat = n - (t + 1) * (bestOf ps).1.toNat := by rw [Nat.add_mul, Nat.one_mul]; omega
    rw [e] at h1
    have e2 : ((t + 1 : Nat) : Int) * (bestOf ps).2 = (t : Int) * (bestOf ps).2 + (bestOf ps).2 := by
      have : ((t + 1 : Nat) : Int) = (t : Int) + 1 := by omega
      rw [this, Int.add_mul, Int.one_mul]
    omega
/-- PriceList.price is the price -/
theorem priceOf_eq (h : OkShop ps) {n : Int} (hn : 0 ≤ n) : priceOf ps n = pr ps n.toNat := by
  unfold priceOf
  dsimp only
  split
  · rfl
  · rename_i hgt
    have b1 := (h.ok _ (bestOf_mem h.ne)).1
    have l1 := (h.ok _ (lastOf_mem h.ne)).1
    generalize ht : (n - (topOf ps : Int) + (bestOf ps).1 - 1) / (bestOf ps).1 = t
    have d1 := Int.mul_ediv_add_emod (n - (topOf ps : Int) + (bestOf ps).1 - 1) (bestOf ps).1
    have d2 := Int.emod_nonneg (n - (topOf ps : Int) + (bestOf ps).1 - 1) (b := (bestOf ps).1) (by omega)
    have d3 := Int.emod_lt_of_pos (n - (topOf ps : Int) + (bestOf ps).1 - 1) (b := (bestOf ps).1) (by omega)
    rw [ht] at d1
    have t1 : 1 ≤ t := by
      rw [← ht]
      exact (Int.le_ediv_iff_mul_le (by omega)).mpr (by omega)
    have e1 : (bestOf ps).1 * t = t * (bestOf ps).1 := Int.mul_comm _ _
    have tn : t = ((t.toNat : Nat) : Int) := by omega
    have bn : (bestOf ps).1 = (((bestOf ps).1.toNat : Nat) : Int) := by omega
    have e3 : ((t.toNat * (bestOf ps).1.toNat : Nat) : Int) = t * (bestOf ps).1 := by rw [Int.natCast_mul, ← tn, ← bn]
    have e4 : (t.toNat - 1) * (bestOf ps).1.toNat + (bestOf ps).1.toNat = t.toNat * (bestOf ps).1.toNat := by
      rw [← Nat.succ_mul]; congr 1; omega
    have htop : (bestOf ps).1.toNat ≤ topOf ps := by
      rw [h.top]; exact Nat.le_mul_of_pos_right _ (by omega)
    have key := h.periods t.toNat n.toNat (.inr (by omega))
    rw [key]
    have e5 : (n - t * (bestOf ps).1).toNat = n.toNat - t.toNat * (bestOf ps).1.toNat := by omega
    rw [e5, ← tn]
    omega
end
end PK

/-! Plain Lean: the needed packs told by the prices. -/
namespace PK
section
variable {ps qs : List Pack}
/-- a number at which a pack is needed, told by the prices -/
def Ess (f : Nat → Int) (s : Nat) : Prop := 1 ≤ s ∧ f s < f (s + 1) ∧ ∀ a, 1 ≤ a → a < s → f s < f a + f (s - a)
theorem cost_nonneg (h : Pks ps) : ∀ {l : List Pack}, (∀ p ∈ l, p ∈ ps) → (l.length : Int) ≤ cost l
  | [], _ => by simp [cost]
  | p :: r, hl => by
    have ih := cost_nonneg h (l := r) fun q hq => hl q (List.mem_cons_of_mem _ hq)
    have := h.c p (hl p List.mem_cons_self)
    rw [cost_cons, List.length_cons]; omega
/-- an essential number has its pack in every list of these prices -/
theorem ess_mem (h : Pks ps) {s : Nat} (he : Ess (pr ps) s) : ((s : Int), pr ps s) ∈ ps := by
  obtain ⟨s1, up, sp⟩ := he
  obtain ⟨l, h1, h2, h3⟩ := pr_best h s
  match l, h1, h2, h3 with
  | [], _, h2, _ => simp [size] at h2; omega
  | [q], h1, h2, h3 =>
    have hq := h1 q List.mem_cons_self
    have q1 := h.s q hq
    rw [size_cons] at h2
    rw [cost_cons] at h3
    have h2 : s ≤ q.1.toNat := by simpa [size] using h2
    have h3 : q.2 = pr ps s := by simpa [cost] using h3
    by_cases e : q.1.toNat = s
    · have : q = ((s : Int), pr ps s) := Prod.ext (by show q.1 = (s : Int); omega) h3
      rw [← this]; exact hq
    · have a1 := pr_self h hq
      have a2 : pr ps (s + 1) ≤ pr ps q.1.toNat := pr_mono h (by omega)
      omega
  | q :: q' :: r, h1, h2, h3 =>
    exfalso
    have hq := h1 q List.mem_cons_self
    have q1 := h.s q hq
    have hr : ∀ p ∈ q' :: r, p ∈ ps := fun p hp => h1 p (List.mem_cons_of_mem _ hp)
    have c1 := cost_nonneg h hr
    rw [List.length_cons] at c1
    rw [size_cons] at h2
    rw [cost_cons] at h3
    have a1 := pr_self h hq
    by_cases e : s ≤ q.1.toNat
    · have a2 : pr ps s ≤ pr ps q.1.toNat := pr_mono h e
      omega
    · have a2 : pr ps (s - q.1.toNat) ≤ cost (q' :: r) := pr_buy h hr (by omega)
      have a3 := sp q.1.toNat (by omega) (by omega)
      omega
/-- no pack may be left out -/
def Irr (N : List Pack) : Prop := ∀ p ∈ N, ∀ l : List Pack, (∀ x ∈ l, x ∈ N) → p ∉ l → p.1.toNat ≤ size l → p.2 < cost l
theorem irr_ess (h : Pks ps) (hi : Irr ps) {p : Pack} (hp : p ∈ ps) : Ess (pr ps) p.1.toNat ∧ p.2 = pr ps p.1.toNat := by
  have p1 := h.s p hp
  have key : ∀ l : List Pack, (∀ x ∈ l, x ∈ ps) → p.1.toNat ≤ size l → cost l ≤ p.2 → l = [p] ∧ p.2 = cost l := fun l hl hs hc => by
    by_cases m : p ∈ l
    · obtain ⟨A, B, rfl⟩ := List.append_of_mem m
      have c1 := cost_nonneg h (l := A) fun x hx => hl x (by simp [hx])
      have c2 := cost_nonneg h (l := B) fun x hx => hl x (by simp [hx])
      rw [cost_app, cost_cons] at hc
      have a0 : A = [] := List.eq_nil_of_length_eq_zero (by omega)
      have b0 : B = [] := List.eq_nil_of_length_eq_zero (by omega)
      subst a0 b0
      exact ⟨rfl, by simp [cost]⟩
    · have := hi p hp l hl m hs; omega
  have e0 : p.2 = pr ps p.1.toNat := by
    obtain ⟨l, h1, h2, h3⟩ := pr_best h p.1.toNat
    have := (key l h1 h2 (by rw [h3]; exact pr_self h hp)).2
    omega
  refine ⟨⟨by omega, ?_, fun a a1 a2 => ?_⟩, e0⟩
  · apply Int.not_le.mp
    intro hle
    obtain ⟨l, h1, h2, h3⟩ := pr_best h (p.1.toNat + 1)
    have := (key l h1 (by omega) (by omega)).1
    rw [this, size_cons] at h2
    simp [size] at h2
    omega
  · apply Int.not_le.mp
    intro hle
    obtain ⟨l, h1, h2, h3⟩ := pr_best h a
    obtain ⟨m, g1, g2, g3⟩ := pr_best h (p.1.toNat - a)
    have := (key (l ++ m) (fun x hx => by rcases List.mem_append.mp hx with q | q; exact h1 x q; exact g1 x q) (by rw [size_app]; omega) (by rw [cost_app]; omega)).1
    have hl : (l ++ m).length = 1 := by rw [this]; rfl
    rw [List.length_append] at hl
    have l1 : l.length ≠ 0 := fun e => by have := List.eq_nil_of_length_eq_zero e; subst this; simp [size] at h2; omega
    have m1 : m.length ≠ 0 := fun e => by have := List.eq_nil_of_length_eq_zero e; subst this; simp [size] at g2; omega
    omega
theorem not_mem_dropped {N : List Pack} {p : Pack} {l : List Pack} (hl : ∀ x ∈ l, x ∈ N) (m : p ∉ l) : ∀ x ∈ l, x ∈ N.filter fun o => decide (o ≠ p) := fun x hx =>
  List.mem_filter.mpr ⟨hl x hx, by simp only [ne_eq, decide_eq_true_eq]; intro e; subst e; exact m hx⟩
theorem foldDrop_irr : ∀ (l : List Pack) {found : List Pack}, Pks found → ∀ p ∈ l, p ∈ l.foldl dropStep found → ∀ m : List Pack, (∀ x ∈ m, x ∈ l.foldl dropStep found) → p ∉ m → p.1.toNat ≤ size m → p.2 < cost m
  | [], _, _, p, hp, _, _, _, _, _ => by simp at hp
  | q :: r, found, h, p, hp, hN, m, hm, hpm, hs => by
    rw [List.foldl_cons] at hN hm
    have h' : Pks (dropStep found q) := h.of_mem (dropStep_ne h.ne) fun x hx => mem_dropStep hx
    by_cases hr : p ∈ r
    · exact foldDrop_irr r h' p hr hN m hm hpm hs
    · have e : p = q := by rcases List.mem_cons.mp hp with e | e; exact e; exact absurd e hr
      subst e
      have hp2 := mem_foldDrop _ _ _ hN
      have hd : dropStep found p = found := by
        unfold dropStep at hp2 ⊢
        dsimp only at hp2 ⊢
        split at hp2
        · rename_i c
          have := (List.mem_filter.mp hp2).2
          simp at this
        · rename_i c; rw [if_neg c]
      have hpf : p ∈ found := by rw [hd] at hp2; exact hp2
      have p1 := h.s p hpf
      have hmf : ∀ x ∈ m, x ∈ found := fun x hx => mem_dropStep (mem_foldDrop _ _ _ (hm x hx))
      have hmf2 := not_mem_dropped hmf hpm
      have hm0 : m ≠ [] := fun e => by subst e; simp [size] at hs; omega
      have hne : found.filter (fun o => decide (o ≠ p)) ≠ [] := fun e => by
        obtain ⟨x, hx⟩ := List.exists_mem_of_ne_nil m hm0
        have := hmf2 x hx
        rw [e] at this; simp at this
      have hg : ¬ pr (found.filter fun o => decide (o ≠ p)) p.1.toNat ≤ p.2 := fun hle => by
        have hd2 : dropStep found p = found.filter fun o => decide (o ≠ p) := by
          unfold dropStep; dsimp only; rw [if_pos ⟨hne, hle⟩]
        rw [hd2] at hd
        rw [← hd] at hpf
        have := (List.mem_filter.mp hpf).2
        simp at this
      have := pr_buy (h.of_mem hne fun x hx => (List.mem_filter.mp hx).1) hmf2 hs
      omega
theorem irr_neededOf (h : Pks ps) : Irr (neededOf ps) := fun p hp l hl hpl hs =>
  foldDrop_irr (srt ps) (h.of_mem (srt_ne h.ne) fun p hp => mem_srt.mp hp) p (mem_foldDrop _ _ _ hp) hp l hl hpl hs
theorem Pks.needed (h : Pks ps) : Pks (neededOf ps) := h.of_mem (neededOf_ne h.ne) fun p hp => mem_neededOf hp
/-- the needed packs, told by the prices -/
theorem mem_needed (h : Pks ps) {p : Pack} : p ∈ neededOf ps ↔ 1 ≤ p.1 ∧ Ess (pr ps) p.1.toNat ∧ p.2 = pr ps p.1.toNat := by
  have hf : pr (neededOf ps) = pr ps := funext (neededOf_pr h)
  constructor
  · intro hp
    have := irr_ess h.needed (irr_neededOf h) hp
    rw [hf] at this
    exact ⟨h.needed.s p hp, this⟩
  · rintro ⟨h0, h1, h2⟩
    rw [← hf] at h1 h2
    have := ess_mem h.needed h1
    have e : p = (((p.1.toNat : Nat) : Int), pr (neededOf ps) p.1.toNat) := Prod.ext (by show p.1 = ((p.1.toNat : Nat) : Int); omega) h2
    rw [e]; exact this
/-- the needed packs hang on the prices alone -/
theorem needed_congr (h : Pks ps) (h' : Pks qs) (e : ∀ n, pr ps n = pr qs n) : neededOf ps = neededOf qs :=
  asc_unique (asc_neededOf ps) (asc_neededOf qs) fun x => by rw [mem_needed h, mem_needed h', show pr ps = pr qs from funext e]
theorem needed_idem (h : Pks ps) : neededOf (neededOf ps) = neededOf ps := needed_congr h.needed h (neededOf_pr h)
theorem Pks.app (h : Pks ps) (h' : Pks qs) : Pks (ps ++ qs) := ⟨by simp [h.ne], fun p hp => by rcases List.mem_append.mp hp with q | q; exact h.s p q; exact h'.s p q, fun p hp => by rcases List.mem_append.mp hp with q | q; exact h.c p q; exact h'.c p q⟩
theorem pr_app_congr {A B A' B' : List Pack} (a : Pks A) (b : Pks B) (a' : Pks A') (b' : Pks B') (ea : ∀ n, pr A n = pr A' n) (eb : ∀ n, pr B n = pr B' n) (n : Nat) : pr (A ++ B) n = pr (A' ++ B') n := by
  have aux : ∀ {A B A' B' : List Pack}, Pks A → Pks B → Pks A' → Pks B' → (∀ n, pr A n = pr A' n) → (∀ n, pr B n = pr B' n) → ∀ n, pr (A ++ B) n ≤ pr (A' ++ B') n := fun {A B A' B'} a b a' b' ea eb n => by
    refine pr_cmp (a.app b) (a'.app b') (fun q hq => ?_) n
    rcases List.mem_append.mp hq with hq | hq
    · have h1 := pr_sub (a.app b) a (fun p hp => List.mem_append_left _ hp) q.1.toNat
      have h2 := pr_self a' hq
      rw [ea] at h1; omega
    · have h1 := pr_sub (a.app b) b (fun p hp => List.mem_append_right _ hp) q.1.toNat
      have h2 := pr_self b' hq
      rw [eb] at h1; omega
  exact Int.le_antisymm (aux a b a' b' ea eb n) (aux a' b' a b (fun n => (ea n).symm) (fun n => (eb n).symm) n)
theorem needed_app (h : Pks ps) (h' : Pks qs) : neededOf (neededOf ps ++ neededOf qs) = neededOf (ps ++ qs) :=
  needed_congr (h.needed.app h'.needed) (h.app h') (pr_app_congr h.needed h'.needed h h' (neededOf_pr h) (neededOf_pr h'))
/-- sizes and prices go up -/
theorem needed_up (h : Pks ps) : (neededOf ps).Pairwise fun p q => p.1 < q.1 ∧ p.2 < q.2 := by
  refine (asc_neededOf ps).imp_of_mem fun {a b} ha hb hab => ?_
  obtain ⟨a1, a2, a3⟩ := (mem_needed h).mp ha
  obtain ⟨b1, b2, b3⟩ := (mem_needed h).mp hb
  have hlt : a.1 < b.1 := by
    rcases hab with q | ⟨q1, q2⟩
    · exact q
    · rw [a3, b3, q1] at q2; omega
  refine ⟨hlt, ?_⟩
  have := a2.2.1
  have : pr ps (a.1.toNat + 1) ≤ pr ps b.1.toNat := pr_mono h (by omega)
  omega
theorem needed_few (h : Pks ps) (hs : ∀ p ∈ ps, p.1 ≤ 30) : (neededOf ps).length ≤ 30 := by
  have aux : ∀ (l : List Pack) (k : Nat), l.Pairwise (fun p q => p.1 < q.1 ∧ p.2 < q.2) → (∀ p ∈ l, (k : Int) < p.1 ∧ p.1 ≤ 30) → l.length + k ≤ 30 ∨ l = [] := by
    intro l
    induction l with
    | nil => intro k _ _; exact .inr rfl
    | cons p r ih =>
      intro k hw hb
      obtain ⟨h1, h2⟩ := List.pairwise_cons.mp hw
      have hp := hb p List.mem_cons_self
      left
      rcases ih p.1.toNat h2 fun q hq => ⟨by have := (h1 q hq).1; omega, (hb q (List.mem_cons_of_mem _ hq)).2⟩ with q | q
      · rw [List.length_cons]; omega
      · subst q; simp only [List.length_cons, List.length_nil]; omega
  rcases aux (neededOf ps) 0 (needed_up h) fun p hp => ⟨by have := h.needed.s p hp; omega, hs p (mem_neededOf hp)⟩ with q | q
  · omega
  · rw [q]; simp
theorem OkShop.of {qs : List Pack} (hne : qs ≠ []) (h : ∀ q ∈ qs, OkPack q) : OkShop (neededOf qs) := ⟨qs, hne, h, rfl⟩
theorem OkShop.idem (h : OkShop ps) : neededOf ps = ps := by
  obtain ⟨qs, h1, h2, rfl⟩ := h
  exact needed_idem (OkPack.pks h1 h2)
theorem OkShop.few (h : OkShop ps) : ps.length ≤ 30 := by
  obtain ⟨qs, h1, h2, rfl⟩ := h
  exact needed_few (OkPack.pks h1 h2) fun p hp => (h2 p hp).2.1
end
end PK

/-! Plain Lean: multiplied prices, pieces for a sum, where prices go on evenly. -/
namespace PK
section
variable {ps qs : List Pack}
/-- a multiplied price -/
def sc (t : Int) (p : Pack) : Pack := (p.1, t * p.2)
theorem Pks.sc {t : Int} (ht : 1 ≤ t) (h : Pks ps) : Pks (ps.map (sc t)) := by
  refine ⟨by simpa using h.ne, fun p hp => ?_, fun p hp => ?_⟩ <;> obtain ⟨q, hq, rfl⟩ := List.mem_map.mp hp
  · exact h.s q hq
  · have := h.c q hq
    have h2 : 1 * 1 ≤ t * q.2 := Int.mul_le_mul ht this (by omega) (by omega)
    show 1 ≤ t * q.2
    omega
theorem minL_mul {t : Int} (ht : 0 ≤ t) {l : List Int} (hl : l ≠ []) : minL (l.map (t * ·)) = t * minL l := by
  refine minL_eq (List.mem_map.mpr ⟨_, minL_mem hl, rfl⟩) fun y hy => ?_
  obtain ⟨z, hz, rfl⟩ := List.mem_map.mp hy
  exact Int.mul_le_mul_of_nonneg_left (minL_le hz) ht
theorem pr_sc {t : Int} (ht : 1 ≤ t) (h : Pks ps) (n : Nat) : pr (ps.map (sc t)) n = t * pr ps n := by
  induction n using Nat.strongRecOn with
  | _ n ih =>
    cases n with
    | zero => rw [pr_zero, pr_zero, Int.mul_zero]
    | succ n =>
      rw [pr_succ _ (h.sc ht).s, pr_succ _ h.s, ← minL_mul (by omega) (by simpa using h.ne), List.map_map, List.map_map]
      congr 1
      apply List.map_congr_left
      intro p hp
      have := h.s p hp
      show t * p.2 + pr (ps.map (sc t)) (n + 1 - p.1.toNat) = t * (p.2 + pr ps (n + 1 - p.1.toNat))
      rw [ih (n + 1 - p.1.toNat) (by omega), Int.mul_add]
theorem mul_lt_iff {t a b : Int} (ht : 1 ≤ t) : t * a < t * b ↔ a < b := ⟨fun h => Int.lt_of_mul_lt_mul_left h (by omega), fun h => Int.mul_lt_mul_of_pos_left h (by omega)⟩
theorem mul_le_iff {t a b : Int} (ht : 1 ≤ t) : t * a ≤ t * b ↔ a ≤ b := ⟨fun h => Int.le_of_mul_le_mul_left h (by omega), fun h => Int.mul_le_mul_of_nonneg_left h (by omega)⟩
theorem mul_eq_iff {t a b : Int} (ht : 1 ≤ t) : t * a = t * b ↔ a = b := ⟨fun h => Int.eq_of_mul_eq_mul_left (by omega) h, fun h => by rw [h]⟩
theorem ess_sc {t : Int} (ht : 1 ≤ t) {f : Nat → Int} {s : Nat} : Ess (fun n => t * f n) s ↔ Ess f s := by
  unfold Ess
  simp only [mul_lt_iff ht, ← Int.mul_add]
theorem asc_sc {t : Int} (ht : 1 ≤ t) {l : List Pack} (h : Asc l) : Asc (l.map (sc t)) := List.pairwise_map.mpr (h.imp fun {a b} q => by
  rcases q with q | ⟨q1, q2⟩
  · exact .inl q
  · exact .inr ⟨q1, (mul_lt_iff ht).mpr q2⟩)
theorem needed_sc {t : Int} (ht : 1 ≤ t) (h : Pks ps) : neededOf (ps.map (sc t)) = (neededOf ps).map (sc t) := by
  refine asc_unique (asc_neededOf _) (asc_sc ht (asc_neededOf ps)) fun x => ?_
  rw [mem_needed (h.sc ht), show pr (ps.map (sc t)) = fun n => t * pr ps n from funext (pr_sc ht h), ess_sc ht, List.mem_map]
  constructor
  · rintro ⟨h1, h2, h3⟩
    exact ⟨(x.1, pr ps x.1.toNat), (mem_needed h).mpr ⟨h1, h2, rfl⟩, Prod.ext rfl h3.symm⟩
  · rintro ⟨q, hq, rfl⟩
    obtain ⟨h1, h2, h3⟩ := (mem_needed h).mp hq
    exact ⟨h1, h2, by show t * q.2 = t * pr ps q.1.toNat; rw [h3]⟩
theorem best_sc {t : Int} (ht : 1 ≤ t) (hne : ps ≠ []) : bestOf (ps.map (sc t)) = sc t (bestOf ps) := by
  have aux : ∀ (l : List Pack) (f : Pack), (l.map (sc t)).foldl (fun f p => if p.2 * f.1 < f.2 * p.1 then p else f) (sc t f) = sc t (l.foldl (fun f p => if p.2 * f.1 < f.2 * p.1 then p else f) f) := by
    intro l
    induction l with
    | nil => intro f; rfl
    | cons p r ih =>
      intro f
      rw [List.map_cons, List.foldl_cons, List.foldl_cons]
      have e : ((sc t p).2 * (sc t f).1 < (sc t f).2 * (sc t p).1) ↔ p.2 * f.1 < f.2 * p.1 := by
        show t * p.2 * f.1 < t * f.2 * p.1 ↔ _
        rw [Int.mul_assoc, Int.mul_assoc, mul_lt_iff ht]
      by_cases c : p.2 * f.1 < f.2 * p.1
      · rw [if_pos (e.mpr c), if_pos c, ih]
      · rw [if_neg (fun q => c (e.mp q)), if_neg c, ih]
  cases ps with
  | nil => exact absurd rfl hne
  | cons p r => exact aux (p :: r) p
/-! ### pieces for a sum -/
/-- r is the greatest number for t -/
def MostFor (ps : List Pack) (t : Int) (r : Nat) : Prop := pr ps r ≤ t ∧ t < pr ps (r + 1)
theorem MostFor.le (h : Pks ps) {t : Int} {r n : Nat} (m : MostFor ps t r) (hn : pr ps n ≤ t) : n ≤ r := by
  apply Nat.le_of_not_lt
  intro hlt
  have := pr_mono h (show r + 1 ≤ n from hlt)
  have := m.2
  omega
theorem MostFor.uniq (h : Pks ps) {t : Int} {r r' : Nat} (a : MostFor ps t r) (b : MostFor ps t r') : r = r' := Nat.le_antisymm (b.le h a.1) (a.le h b.1)
theorem MostFor.sc (h : Pks ps) {k t u : Int} {r : Nat} (hk : 1 ≤ k) (hu : k * t ≤ u ∧ u < k * t + k) (m : MostFor (ps.map (sc k)) u r) : MostFor ps t r := by
  obtain ⟨a, b⟩ := m
  rw [pr_sc hk h] at a b
  constructor
  · apply Int.not_lt.mp
    intro hlt
    have : k * (t + 1) ≤ k * pr ps r := (mul_le_iff hk).mpr (by omega)
    rw [Int.mul_add, Int.mul_one] at this
    omega
  · apply Int.not_le.mp
    intro hle
    have : k * pr ps (r + 1) ≤ k * t := (mul_le_iff hk).mpr hle
    omega
theorem pr_mul (h : Pks ps) (n : Nat) : ∀ k : Nat, pr ps (k * n) ≤ (k : Int) * pr ps n
  | 0 => by rw [Nat.zero_mul, pr_zero]; simp
  | k + 1 => by
    have ih := pr_mul h n k
    have h1 := pr_add h (k * n) n
    have e : ((k + 1 : Nat) : Int) * pr ps n = (k : Int) * pr ps n + pr ps n := by
      have : ((k + 1 : Nat) : Int) = (k : Int) + 1 := by omega
      rw [this, Int.add_mul, Int.one_mul]
    rw [Nat.add_mul, Nat.one_mul, e]
    omega
/-- prices are bounded where packs are -/
theorem pr_bound (h : Pks ps) {c m : Int} (hc : 0 ≤ c) (hb : ∀ p ∈ ps, p.2 ≤ c * p.1 ∧ p.2 ≤ m) (n : Nat) : pr ps n ≤ c * n + m := by
  induction n using Nat.strongRecOn with
  | _ n ih =>
    obtain ⟨p, hp⟩ := List.exists_mem_of_ne_nil ps h.ne
    have h1 := pr_le h hp n
    have hs := h.s p hp
    obtain ⟨b1, b2⟩ := hb p hp
    by_cases hle : n ≤ p.1.toNat
    · rw [show n - p.1.toNat = 0 by omega, pr_zero] at h1
      have : 0 ≤ c * (n : Int) := Int.mul_nonneg hc (by omega)
      omega
    · have := ih (n - p.1.toNat) (by omega)
      have e : c * (n : Int) = c * p.1 + c * ((n - p.1.toNat : Nat) : Int) := by rw [← Int.mul_add]; congr 1; omega
      omega
/-! ### where prices go on evenly -/
/-- the numbers from r on go on by the best pack, r - 1 does not -/
def SteadyAt (ps : List Pack) (r : Nat) : Prop := (∀ n, r ≤ n → pr ps (n + (bestOf ps).1.toNat) = pr ps n + (bestOf ps).2) ∧ (1 ≤ r → pr ps (r - 1 + (bestOf ps).1.toNat) ≠ pr ps (r - 1) + (bestOf ps).2)
theorem SteadyAt.le {r r' : Nat} (a : SteadyAt ps r) (b : SteadyAt ps r') : r ≤ r' := by
  apply Nat.le_of_not_lt
  intro hlt
  exact a.2 (by omega) (b.1 (r - 1) (by omega))
theorem SteadyAt.uniq {r r' : Nat} (a : SteadyAt ps r) (b : SteadyAt ps r') : r = r' := Nat.le_antisymm (a.le b) (b.le a)
theorem SteadyAt.sc {t : Int} (ht : 1 ≤ t) (h : Pks ps) {r : Nat} (a : SteadyAt (ps.map (sc t)) r) : SteadyAt ps r := by
  unfold SteadyAt at a
  rw [best_sc ht h.ne] at a
  simp only [pr_sc ht h] at a
  have e : ∀ n, (t * pr ps (n + (bestOf ps).1.toNat) = t * pr ps n + t * (bestOf ps).2) ↔ pr ps (n + (bestOf ps).1.toNat) = pr ps n + (bestOf ps).2 := fun n => by rw [← Int.mul_add, mul_eq_iff ht]
  exact ⟨fun n hn => (e n).mp (a.1 n hn), fun h1 q => a.2 h1 ((e _).mpr q)⟩
end
end PK

/-! Plain Lean: two lists side by side. -/
namespace PK
section
variable {ps qs : List Pack}
/-- the greatest number for t -/
noncomputable def mf (ps : List Pack) (t : Int) : Nat := Classical.epsilon (MostFor ps t)
theorem mf_eq (h : Pks ps) {t : Int} {r : Nat} (m : MostFor ps t r) : mf ps t = r := (Classical.epsilon_spec (p := MostFor ps t) ⟨r, m⟩).uniq h m
theorem pr_grows (h : Pks ps) (n : Nat) : (n : Int) ≤ pr ps n * (bestOf ps).1 := by
  have := pr_rate h (bestOf_best h) n
  have b2 := h.c _ (bestOf_mem h.ne)
  have h2 : (n : Int) * 1 ≤ (n : Int) * (bestOf ps).2 := Int.mul_le_mul_of_nonneg_left b2 (by omega)
  omega
theorem most_ex (h : Pks ps) {t : Int} (ht : 0 ≤ t) : ∃ r, MostFor ps t r := by
  -- the first number that costs more
  have b1 := h.s _ (bestOf_mem h.ne)
  have big : t < pr ps ((t * (bestOf ps).1).toNat + 1) := by
    have := pr_grows h ((t * (bestOf ps).1).toNat + 1)
    have n0 : 0 ≤ t * (bestOf ps).1 := Int.mul_nonneg ht (by omega)
    have : t * (bestOf ps).1 < pr ps ((t * (bestOf ps).1).toNat + 1) * (bestOf ps).1 := by omega
    exact Int.lt_of_mul_lt_mul_right this (by omega)
  have aux : ∀ n : Nat, t < pr ps n → ∃ r, MostFor ps t r := by
    intro n
    induction n with
    | zero => intro hh; rw [pr_zero] at hh; omega
    | succ n ih =>
      intro hh
      by_cases c : t < pr ps n
      · exact ih c
      · exact ⟨n, by omega, hh⟩
  exact aux _ big
theorem mf_spec (h : Pks ps) {t : Int} (ht : 0 ≤ t) : MostFor ps t (mf ps t) := Classical.epsilon_spec (most_ex h ht)
/-- helped_by -/
noncomputable def hb (ps : List Pack) (q : Pack) : Option Nat := if (mf ps q.2 : Int) + 1 ≤ q.1 then some (mf ps q.2 + 1) else none
theorem hb_none (h : Pks ps) {q : Pack} (h1 : 1 ≤ q.1) (h2 : 1 ≤ q.2) : hb ps q = none ↔ pr ps q.1.toNat ≤ q.2 := by
  obtain ⟨a, b⟩ := mf_spec h (show 0 ≤ q.2 by omega)
  unfold hb
  constructor
  · intro e
    split at e
    · cases e
    · rename_i c
      exact Int.le_trans (pr_mono h (show q.1.toNat ≤ mf ps q.2 by omega)) a
  · intro e
    rw [if_neg]
    intro c
    have := pr_mono h (show mf ps q.2 + 1 ≤ q.1.toNat by omega)
    omega
theorem hb_some (h : Pks ps) {q : Pack} (h2 : 1 ≤ q.2) {r : Nat} (e : hb ps q = some r) : q.2 < pr ps r ∧ (∀ n, n < r → pr ps n ≤ q.2) ∧ 1 ≤ r ∧ (r : Int) ≤ q.1 := by
  obtain ⟨a, b⟩ := mf_spec h (show 0 ≤ q.2 by omega)
  unfold hb at e
  split at e
  · rename_i c
    cases e
    exact ⟨b, fun n hn => Int.le_trans (pr_mono h (by omega)) a, by omega, by omega⟩
  · cases e
/-- the first number at which ps is dearer than qs -/
def FirstD (ps qs : List Pack) : Option Nat → Prop
  | none => ∀ n, pr ps n ≤ pr qs n
  | some r => pr qs r < pr ps r ∧ ∀ n, n < r → pr ps n ≤ pr qs n
theorem FirstD.uniq {a b : Option Nat} (ha : FirstD ps qs a) (hb : FirstD ps qs b) : a = b := by
  cases a with
  | none => cases b with
    | none => rfl
    | some s => have := ha s; have := hb.1; omega
  | some r => cases b with
    | none => have := hb r; have := ha.1; omega
    | some s =>
      rcases Nat.lt_trichotomy r s with h | h | h
      · have := hb.2 r h; have := ha.1; omega
      · rw [h]
      · have := ha.2 s h; have := hb.1; omega
theorem least {P : Nat → Prop} [DecidablePred P] {n : Nat} (h : P n) : ∃ m, P m ∧ ∀ k, k < m → ¬ P k := by
  induction n using Nat.strongRecOn with
  | _ n ih =>
    by_cases c : ∃ k, k < n ∧ P k
    · obtain ⟨k, hk, pk⟩ := c; exact ih k hk pk
    · exact ⟨n, h, fun k hk pk => c ⟨k, hk, pk⟩⟩
/-- told by single packs -/
theorem firstD_packs (h : Pks ps) (h' : Pks qs) : (∀ q ∈ qs, hb ps q = none) → FirstD ps qs none := fun hn n => pr_cmp h h' (fun q hq => (hb_none h (h'.s q hq) (h'.c q hq)).mp (hn q hq)) n
theorem firstD_some (h : Pks ps) (h' : Pks qs) {q : Pack} (hq : q ∈ qs) {r : Nat} (e : hb ps q = some r) (hm : ∀ x ∈ qs, ∀ s, hb ps x = some s → r ≤ s) : FirstD ps qs (some r) := by
  obtain ⟨a1, a2, a3, a4⟩ := hb_some h (h'.c q hq) e
  have bad : pr qs r < pr ps r := by
    have := pr_self h' hq
    have := pr_mono h' (show r ≤ q.1.toNat by omega)
    omega
  refine ⟨bad, fun n hn => ?_⟩
  obtain ⟨m, hm1, hm2⟩ := least (P := fun n => pr qs n < pr ps n) bad
  have key : r ≤ m := by
    have m1 : 1 ≤ m := by
      cases m with
      | zero => rw [pr_zero, pr_zero] at hm1; omega
      | succ m => omega
    obtain ⟨x, hx, ex⟩ := pr_ex h' m1
    have x1 := h'.s x hx
    have x2 := h'.c x hx
    by_cases c : x.1.toNat < m
    · have b1 := hm2 x.1.toNat c
      have b2 := hm2 (m - x.1.toNat) (by omega)
      have b3 := pr_self h' hx
      have b4 := pr_add h x.1.toNat (m - x.1.toNat)
      rw [show x.1.toNat + (m - x.1.toNat) = m by omega] at b4
      omega
    · rw [show m - x.1.toNat = 0 by omega, pr_zero] at ex
      have ne : hb ps x ≠ none := fun z => by
        have := (hb_none h x1 x2).mp z
        have := pr_mono h (show m ≤ x.1.toNat by omega)
        omega
      cases z : hb ps x with
      | none => exact absurd z ne
      | some s =>
        obtain ⟨c1, c2, c3, c4⟩ := hb_some h x2 z
        have hs := hm x hx s z
        have : s ≤ m := by
          apply Nat.le_of_not_lt
          intro hlt
          have := c2 m hlt
          omega
        omega
  have := hm2 n (by omega)
  omega
/-- never dearer -/
def nvD : Option Nat → Bool
  | none => true
  | _ => false
theorem needed_comm (h : Pks ps) (h' : Pks qs) : neededOf (ps ++ qs) = neededOf (qs ++ ps) := needed_congr (h.app h') (h'.app h) fun n => pr_congr (h.app h') (fun p => by simp [Or.comm]) n
theorem or_le (h : Pks ps) (h' : Pks qs) (n : Nat) : pr (neededOf (ps ++ qs)) n ≤ pr qs n := by
  rw [neededOf_pr (h.app h')]
  exact pr_sub (h.app h') h' (fun p hp => List.mem_append_right _ hp) n
theorem or_le' (h : Pks ps) (h' : Pks qs) (n : Nat) : pr (neededOf (ps ++ qs)) n ≤ pr ps n := by
  rw [neededOf_pr (h.app h')]
  exact pr_sub (h.app h') h (fun p hp => List.mem_append_left _ hp) n
end
end PK

/-! Plain Lean: the laws' own prices and needed packs. -/
namespace PK
section
variable {ps qs : List Pack}
theorem minL_snoc : ∀ {l : List Int} {a : Int}, l ≠ [] → minL (l ++ [a]) = if a < minL l then a else minL l
  | [x], a, _ => by
    show minL (x :: a :: []) = _
    unfold minL
    show (if x ≤ a then x else a) = if a < x then a else x
    split <;> split <;> omega
  | x :: y :: r, a, _ => by
    have ih := minL_snoc (l := y :: r) (a := a) (by simp)
    show minL (x :: (y :: r ++ [a])) = _
    have e : minL (x :: (y :: r ++ [a])) = if x ≤ minL (y :: r ++ [a]) then x else minL (y :: r ++ [a]) := rfl
    have e2 : minL (x :: y :: r) = if x ≤ minL (y :: r) then x else minL (y :: r) := rfl
    rw [e, e2, ih]
    by_cases c1 : a < minL (y :: r) <;> by_cases c2 : x ≤ minL (y :: r)
    · rw [if_pos c1, if_pos c2]; split <;> split <;> omega
    · rw [if_pos c1, if_neg c2, if_pos c1]; split <;> first | omega | rfl
    · rw [if_neg c1, if_pos c2]; split <;> first | omega | rfl
    · rw [if_neg c1, if_neg c2, if_neg c1]
theorem irr_at (h : Pks ps) {p : Pack} (hp : p ∈ ps) (hi : ∀ l : List Pack, (∀ x ∈ l, x ∈ ps) → p ∉ l → p.1.toNat ≤ size l → p.2 < cost l) : Ess (pr ps) p.1.toNat ∧ p.2 = pr ps p.1.toNat := by
  have p1 := h.s p hp
  have key : ∀ l : List Pack, (∀ x ∈ l, x ∈ ps) → p.1.toNat ≤ size l → cost l ≤ p.2 → l = [p] ∧ p.2 = cost l := fun l hl hs hc => by
    by_cases m : p ∈ l
    · obtain ⟨A, B, rfl⟩ := List.append_of_mem m
      have c1 := cost_nonneg h (l := A) fun x hx => hl x (by simp [hx])
      have c2 := cost_nonneg h (l := B) fun x hx => hl x (by simp [hx])
      rw [cost_app, cost_cons] at hc
      have a0 : A = [] := List.eq_nil_of_length_eq_zero (by omega)
      have b0 : B = [] := List.eq_nil_of_length_eq_zero (by omega)
      subst a0 b0
      exact ⟨rfl, by simp [cost]⟩
    · have := hi l hl m hs; omega
  have e0 : p.2 = pr ps p.1.toNat := by
    obtain ⟨l, h1, h2, h3⟩ := pr_best h p.1.toNat
    have := (key l h1 h2 (by rw [h3]; exact pr_self h hp)).2
    omega
  refine ⟨⟨by omega, ?_, fun a a1 a2 => ?_⟩, e0⟩
  · apply Int.not_le.mp
    intro hle
    obtain ⟨l, h1, h2, h3⟩ := pr_best h (p.1.toNat + 1)
    have := (key l h1 (by omega) (by omega)).1
    rw [this, size_cons] at h2
    simp [size] at h2
    omega
  · apply Int.not_le.mp
    intro hle
    obtain ⟨l, h1, h2, h3⟩ := pr_best h a
    obtain ⟨m, g1, g2, g3⟩ := pr_best h (p.1.toNat - a)
    have := (key (l ++ m) (fun x hx => by rcases List.mem_append.mp hx with q | q; exact h1 x q; exact g1 x q) (by rw [size_app]; omega) (by rw [cost_app]; omega)).1
    have hl : (l ++ m).length = 1 := by rw [this]; rfl
    rw [List.length_append] at hl
    have l1 : l.length ≠ 0 := fun e => by have := List.eq_nil_of_length_eq_zero e; subst this; simp [size] at h2; omega
    have m1 : m.length ≠ 0 := fun e => by have := List.eq_nil_of_length_eq_zero e; subst this; simp [size] at g2; omega
    omega
/-- the packs but one -/
def without (ps : List Pack) (p : Pack) : List Pack := ps.filter fun o => decide (o ≠ p)
theorem mem_without {p x : Pack} : x ∈ without ps p ↔ x ∈ ps ∧ x ≠ p := by unfold without; simp
/-- a pack is needed where the others do not reach it -/
theorem needed_without (h : Pks ps) {p : Pack} (hp : p ∈ ps) : p ∈ neededOf ps ↔ (without ps p = [] ∨ p.2 < pr (without ps p) p.1.toNat) := by
  have p1 := h.s p hp
  constructor
  · intro hn
    by_cases hne : without ps p = []
    · exact .inl hne
    · right
      apply Int.not_le.mp
      intro hle
      have h' : Pks (without ps p) := h.of_mem hne fun x hx => (mem_without.mp hx).1
      obtain ⟨_, he, h2⟩ := (mem_needed h).mp hn
      have eq : ∀ n, pr (without ps p) n = pr ps n := fun n => by
        refine Int.le_antisymm (pr_cmp h' h (fun q hq => ?_) n) (pr_sub h h' (fun x hx => (mem_without.mp hx).1) n)
        by_cases e : q = p
        · rw [e]; exact hle
        · exact pr_self h' (mem_without.mpr ⟨hq, e⟩)
      rw [← show pr (without ps p) = pr ps from funext eq] at he h2
      have m := ess_mem h' he
      have e : p = (((p.1.toNat : Nat) : Int), pr (without ps p) p.1.toNat) := Prod.ext (by show p.1 = ((p.1.toNat : Nat) : Int); omega) h2
      rw [← e] at m
      exact (mem_without.mp m).2 rfl
  · intro hc
    refine (mem_needed h).mpr ⟨p1, irr_at h hp fun l hl hpl hs => ?_⟩
    have hl2 : ∀ x ∈ l, x ∈ without ps p := fun x hx => mem_without.mpr ⟨hl x hx, fun e => hpl (e ▸ hx)⟩
    have l0 : l ≠ [] := fun e => by subst e; simp [size] at hs; omega
    have hne : without ps p ≠ [] := fun e => by
      obtain ⟨x, hx⟩ := List.exists_mem_of_ne_nil l l0
      have := hl2 x hx
      rw [e] at this; simp at this
    rcases hc with hc | hc
    · exact absurd hc hne
    · have := pr_buy (h.of_mem hne fun x hx => (mem_without.mp hx).1) hl2 hs
      omega
theorem Pks.srt (h : Pks ps) : Pks (PK.srt ps) := h.of_mem (srt_ne h.ne) fun p hp => mem_srt.mp hp
theorem needed_srt (h : Pks ps) : neededOf (PK.srt ps) = neededOf ps := needed_congr h.srt h fun n => pr_congr h.srt (fun p => mem_srt) n
theorem needed_filter (h : Pks ps) {c : Pack → Bool} (hc : ∀ p ∈ PK.srt ps, c p = true ↔ (without (PK.srt ps) p = [] ∨ p.2 < pr (without (PK.srt ps) p) p.1.toNat)) : (PK.srt ps).filter c = neededOf ps := by
  refine asc_unique ((asc_srt ps).filter c) (asc_neededOf ps) fun x => ?_
  rw [List.mem_filter, ← needed_srt h]
  constructor
  · rintro ⟨h1, h2⟩
    exact (needed_without h.srt h1).mpr ((hc x h1).mp h2)
  · intro hx
    have h1 := mem_neededOf hx
    exact ⟨h1, (hc x h1).mpr ((needed_without h.srt h1).mp hx)⟩
end
end PK

/-! Plain Lean: a pack more. -/
namespace PK
section
variable {ps qs : List Pack}
theorem hb_val (h : Pks ps) {a : Pack} {r : Nat} (m : MostFor ps a.2 r) (hr : (r : Int) + 1 ≤ a.1) : hb ps a = some (r + 1) := by unfold hb; rw [mf_eq h m, if_pos hr]
theorem one_pks {a : Pack} (h1 : 1 ≤ a.1) (h2 : 1 ≤ a.2) : Pks [a] := ⟨by simp, fun p hp => by rw [List.mem_singleton.mp hp]; exact h1, fun p hp => by rw [List.mem_singleton.mp hp]; exact h2⟩
/-- with a pack more -/
theorem firstD_more (h : Pks ps) {a : Pack} (h1 : 1 ≤ a.1) (h2 : 1 ≤ a.2) : FirstD ps (ps ++ [a]) (hb ps a) := by
  have h' := h.app (one_pks h1 h2)
  have old : ∀ x ∈ ps, hb ps x = none := fun x hx => (hb_none h (h.s x hx) (h.c x hx)).mpr (pr_self h hx)
  cases e : hb ps a with
  | none =>
    exact firstD_packs h h' fun q hq => by
      rcases List.mem_append.mp hq with z | z
      · exact old q z
      · rw [List.mem_singleton.mp z]; exact e
  | some r =>
    exact firstD_some h h' (q := a) (by simp) e fun x hx s hs => by
      rcases List.mem_append.mp hx with z | z
      · rw [old x z] at hs; cases hs
      · rw [List.mem_singleton.mp z, e] at hs; cases hs; exact Nat.le_refl _
theorem FirstD.congr {ps' qs' : List Pack} {o : Option Nat} (h : FirstD ps qs o) (e : ∀ n, pr ps n = pr ps' n) (e' : ∀ n, pr qs n = pr qs' n) : FirstD ps' qs' o := by
  cases o with
  | none => intro n; rw [← e, ← e']; exact h n
  | some r => exact ⟨by rw [← e, ← e']; exact h.1, fun n hn => by rw [← e, ← e']; exact h.2 n hn⟩
theorem FirstD.none_eq (h : Pks ps) (h' : Pks qs) (o : Option Nat) (f : FirstD ps qs o) (le : ∀ n, pr qs n ≤ pr ps n) : o = none ↔ neededOf qs = neededOf ps := by
  constructor
  · intro e
    subst e
    exact needed_congr h' h fun n => Int.le_antisymm (le n) (f n)
  · intro e
    have : ∀ n, pr ps n = pr qs n := fun n => by rw [← neededOf_pr h, ← neededOf_pr h', e]
    cases o with
    | none => rfl
    | some r => have h1 := f.1; rw [this r] at h1; omega
theorem mem_more (h : Pks ps) (hn : neededOf ps = ps) {a : Pack} (h1 : 1 ≤ a.1) (h2 : 1 ≤ a.2) : a ∈ neededOf (ps ++ [a]) ↔ (hb ps a).isSome = true ∨ a ∈ ps := by
  have h' := h.app (one_pks h1 h2)
  have le : ∀ n, pr (ps ++ [a]) n ≤ pr ps n := fun n => pr_sub h' h (fun p hp => List.mem_append_left _ hp) n
  have f := firstD_more h h1 h2
  cases e : hb ps a with
  | none =>
    rw [e] at f
    have := (FirstD.none_eq h h' none f le).mp rfl
    rw [this, hn]; simp
  | some r =>
    have hs := hb_some h h2 e
    have ha : a ∉ ps := fun m => by
      have := pr_self h m
      have := pr_mono h (show r ≤ a.1.toNat by omega)
      omega
    simp only [Option.isSome, true_or, iff_true]
    have ew : without (ps ++ [a]) a = ps := by
      unfold without
      rw [List.filter_append]
      have e1 : ps.filter (fun o => decide (o ≠ a)) = ps := List.filter_eq_self.mpr fun x hx => decide_eq_true fun (e : x = a) => ha (e ▸ hx)
      rw [e1]; simp
    refine (needed_without h' (by simp)).mpr (.inr ?_)
    rw [ew]
    have := pr_mono h (show r ≤ a.1.toNat by omega)
    omega
/-- the first of the numbers that are cheaper -/
theorem first_filter {o : Option Nat} (f : FirstD ps qs o) {m : Nat} (hm : ∀ r, o = some r → r < m) : ((List.range m).filter fun n => decide (pr qs n < pr ps n)).head? = o := by
  cases o with
  | none =>
    have : (List.range m).filter (fun n => decide (pr qs n < pr ps n)) = [] := List.filter_eq_nil_iff.mpr fun n _ => by have := f n; simp; omega
    rw [this]; rfl
  | some r =>
    have hr := hm r rfl
    have e : List.range m = List.range r ++ (r :: (List.range m).drop (r + 1)) := by
      have h1 : List.range m = (List.range m).take r ++ (List.range m).drop r := (List.take_append_drop r _).symm
      have h2 : (List.range m).take r = List.range r := by rw [List.take_range]; congr 1; omega
      have h3 : (List.range m).drop r = r :: (List.range m).drop (r + 1) := by
        rw [List.drop_eq_getElem_cons (by simpa using hr)]; simp
      rw [h2, h3] at h1; exact h1
    rw [e, List.filter_append]
    have h1 : (List.range r).filter (fun n => decide (pr qs n < pr ps n)) = [] := List.filter_eq_nil_iff.mpr fun n hn => by have := f.2 n (List.mem_range.mp hn); simp; omega
    rw [h1, List.nil_append, List.filter_cons_of_pos (by simpa using f.1)]; rfl
end
end PK

/-! Plain Lean: lists with a needed pack less, with packs more that are not cheaper. -/
namespace PK
section
variable {ps qs : List Pack}
theorem tab_congr (e : ∀ n, pr ps n = pr qs n) (n : Nat) : tab ps n = tab qs n := by rw [tab_eq, tab_eq, show pr ps = pr qs from funext e]
/-- of needed packs each is needed among fewer -/
theorem needed_less (h : Pks ps) (hn : neededOf ps = ps) (a : Asc ps) {p : Pack} (hne : without ps p ≠ []) : neededOf (without ps p) = without ps p := by
  have hw : Pks (without ps p) := h.of_mem hne fun x hx => (mem_without.mp hx).1
  refine asc_unique (asc_neededOf _) (a.filter _) fun x => ⟨fun hx => mem_neededOf hx, fun hx => ?_⟩
  obtain ⟨x1, x2⟩ := mem_without.mp hx
  refine (needed_without hw hx).mpr ?_
  by_cases c : without (without ps p) x = []
  · exact .inl c
  · right
    have sub : ∀ y ∈ without (without ps p) x, y ∈ without ps x := fun y hy => by
      obtain ⟨y1, y2⟩ := mem_without.mp hy
      exact mem_without.mpr ⟨(mem_without.mp y1).1, y2⟩
    have hne2 : without ps x ≠ [] := fun e => by
      obtain ⟨y, hy⟩ := List.exists_mem_of_ne_nil _ c
      have := sub y hy
      rw [e] at this; simp at this
    have h2 : Pks (without ps x) := h.of_mem hne2 fun y hy => (mem_without.mp hy).1
    rcases (needed_without h x1).mp (by rw [hn]; exact x1) with z | z
    · exact absurd z hne2
    · exact Int.lt_of_lt_of_le z (pr_sub h2 (h2.of_mem c sub) sub _)
theorem less_dear (h : Pks ps) (hn : neededOf ps = ps) {p : Pack} (hp : p ∈ ps) (hne : without ps p ≠ []) : p.2 < pr (without ps p) p.1.toNat := by
  rcases (needed_without h hp).mp (by rw [hn]; exact hp) with z | z
  · exact absurd z hne
  · exact z
/-- packs more that are not cheaper -/
theorem needed_wide (h : Pks ps) (h' : Pks qs) (sub : ∀ p ∈ ps, p ∈ qs) (hq : ∀ q ∈ qs, pr ps q.1.toNat ≤ q.2) : neededOf qs = neededOf ps :=
  needed_congr h' h fun n => Int.le_antisymm (pr_sub h' h sub n) (pr_cmp h h' hq n)
end
end PK

/-! Plain Lean: wishes bought one after another. -/
namespace PK
section
variable {ps qs : List Pack}
/-- some pieces more cost more -/
theorem pr_step (h : Pks ps) {m : Nat} (hm : ∀ p ∈ ps, p.1.toNat ≤ m) (h1 : 1 ≤ m) (n : Nat) : pr ps n < pr ps (n + m) := by
  obtain ⟨p, hp, e⟩ := pr_ex h (show 1 ≤ n + m by omega)
  have := h.c p hp
  have := hm p hp
  have := pr_mono h (show n ≤ n + m - p.1.toNat by omega)
  omega
theorem most_near (h : Pks ps) {m : Nat} (hm : ∀ p ∈ ps, p.1.toNat ≤ m) (h1 : 1 ≤ m) {n r : Nat} (mr : MostFor ps (pr ps n) r) : n ≤ r ∧ r < n + m := by
  refine ⟨mr.le h (Int.le_refl _), ?_⟩
  apply Nat.lt_of_not_le
  intro hle
  have := pr_step h hm h1 n
  have := pr_mono h hle
  have := mr.1
  omega
/-- what comes for n pieces -/
noncomputable def got (ps : List Pack) (n : Int) : Int := if 0 < n then (mf ps (pr ps n.toNat) : Int) else 0
noncomputable def stepW (ps : List Pack) (s : Int × Int) (w : Int) : Int × Int :=
  let n := if w - s.2 > 0 then w - s.2 else 0
  (s.1 + pr ps n.toNat, s.2 + got ps n - w)
noncomputable def paidFor (ps : List Pack) (ws : List Int) : Int × Int := ws.foldl (stepW ps) (0, 0)
theorem got_spec (h : Pks ps) {n : Int} (hn : 0 < n) : MostFor ps (pr ps n.toNat) (got ps n).toNat ∧ n ≤ got ps n := by
  have m := mf_spec h (pr_nonneg h n.toNat)
  unfold got
  rw [if_pos hn]
  refine ⟨by rw [Int.toNat_natCast]; exact m, ?_⟩
  have := m.le h (Int.le_refl _)
  omega
theorem got_near (h : Pks ps) (hm : ∀ p ∈ ps, p.1.toNat ≤ 30) {n : Int} (hn : 0 < n) : got ps n < n + 30 := by
  have m := (got_spec h hn).1
  have := most_near h hm (by decide) m
  omega
/-- nothing is owed, fewer than thirty are left -/
structure WOk (s : Int × Int) : Prop where
  p : 0 ≤ s.1
  l : 0 ≤ s.2
  m : s.2 < 30
theorem WOk.step (h : Pks ps) (hm : ∀ p ∈ ps, p.1.toNat ≤ 30) {s : Int × Int} (k : WOk s) {w : Int} (hw : 0 ≤ w) : WOk (stepW ps s w) := by
  obtain ⟨k1, k2, k3⟩ := k
  unfold stepW
  dsimp only
  have p0 := pr_nonneg h (if w - s.2 > 0 then w - s.2 else 0).toNat
  by_cases c : w - s.2 > 0
  · rw [if_pos c] at p0 ⊢
    have g1 := (got_spec h c).2
    have g2 := got_near h hm c
    exact ⟨by show 0 ≤ s.1 + _; omega, by show 0 ≤ s.2 + _ - w; omega, by show s.2 + _ - w < 30; omega⟩
  · rw [if_neg c] at p0 ⊢
    have g0 : got ps 0 = 0 := by unfold got; rw [if_neg (by decide)]
    rw [g0]
    exact ⟨by show 0 ≤ s.1 + _; omega, by show 0 ≤ s.2 + 0 - w; omega, by show s.2 + 0 - w < 30; omega⟩
theorem WOk.fold (h : Pks ps) (hm : ∀ p ∈ ps, p.1.toNat ≤ 30) : ∀ (ws : List Int) {s : Int × Int}, WOk s → (∀ w ∈ ws, 0 ≤ w) → WOk (ws.foldl (stepW ps) s)
  | [], _, k, _ => k
  | w :: r, s, k, hw => WOk.fold h hm r (k.step h hm (hw w List.mem_cons_self)) fun x hx => hw x (List.mem_cons_of_mem _ hx)
theorem paidFor_ok (h : Pks ps) (hm : ∀ p ∈ ps, p.1.toNat ≤ 30) {ws : List Int} (hw : ∀ w ∈ ws, 0 ≤ w) : WOk (paidFor ps ws) := WOk.fold h hm ws ⟨Int.le_refl _, Int.le_refl _, by decide⟩ hw
end
end PK

/-! Plain Lean: wishes in parts; wishes reckoned. -/
namespace PK
section
variable {ps qs : List Pack}
theorem got_zero (ps : List Pack) : got ps 0 = 0 := by unfold got; rw [if_neg (by decide)]
theorem paidFor_app (ps : List Pack) (xs ys : List Int) : paidFor ps (xs ++ ys) = ys.foldl (stepW ps) (paidFor ps xs) := by unfold paidFor; rw [List.foldl_append]
/-- a wish of which some is left from before -/
theorem stepW_part {p l w : Int} {B : Int × Int} (hl : 0 ≤ l) (hw : 0 ≤ w) (hB : 0 < l → B = (0, 0)) :
    stepW ps (p + B.1, l + B.2) w = (p + (stepW ps B (w - min l w)).1, (l - min l w) + (stepW ps B (w - min l w)).2) ∧ (0 < l - min l w → stepW ps B (w - min l w) = (0, 0)) := by
  have z : (0 : Int).toNat = 0 := rfl
  by_cases c : 0 < l
  · rw [hB c]
    by_cases d : w ≤ l
    · rw [Int.min_eq_right d]
      unfold stepW
      dsimp only
      rw [if_neg (by omega), if_neg (by omega), got_zero, z, pr_zero]
      refine ⟨?_, fun _ => ?_⟩
      · apply Prod.ext <;> dsimp only <;> omega
      · apply Prod.ext <;> dsimp only <;> omega
    · rw [Int.min_eq_left (by omega)]
      unfold stepW
      dsimp only
      rw [if_pos (by omega), if_pos (by omega)]
      have e1 : w - (l + 0) = w - l - 0 := by omega
      rw [e1]
      refine ⟨?_, fun h => by omega⟩
      apply Prod.ext <;> dsimp only <;> omega
  · have l0 : l = 0 := by omega
    subst l0
    rw [Int.min_eq_left hw]
    unfold stepW
    dsimp only
    have e1 : w - (0 + B.2) = w - 0 - B.2 := by omega
    rw [e1]
    refine ⟨?_, fun h => by omega⟩
    apply Prod.ext <;> dsimp only <;> omega
theorem fold_more (h : Pks ps) : ∀ (ws : List Int) (s : Int × Int), s.1 ≤ (ws.foldl (stepW ps) s).1
  | [], s => Int.le_refl _
  | w :: r, s => by
    have ih := fold_more h r (stepW ps s w)
    have : s.1 ≤ (stepW ps s w).1 := by
      unfold stepW; dsimp only
      have := pr_nonneg h (if w - s.2 > 0 then w - s.2 else 0).toNat
      omega
    rw [List.foldl_cons]; omega
theorem paidFor_take (h : Pks ps) (ws : List Int) (n : Nat) : (paidFor ps (ws.take n)).1 ≤ (paidFor ps ws).1 := by
  have e : paidFor ps ws = (ws.drop n).foldl (stepW ps) (paidFor ps (ws.take n)) := by rw [← paidFor_app, List.take_append_drop]
  rw [e]; exact fold_more h _ _
/-! ### reckoned -/
def gotC (ps : List Pack) (n : Int) : Int := if 0 < n then n + ((List.range 30).findIdx fun d => decide (pr ps n.toNat < pr ps (n.toNat + d + 1)) : Nat) else 0
def stepC (ps : List Pack) (s : Int × Int) (w : Int) : Int × Int :=
  let n := if w - s.2 > 0 then w - s.2 else 0
  (s.1 + pr ps n.toNat, s.2 + gotC ps n - w)
def paidC (ps : List Pack) (ws : List Int) : Int × Int := ws.foldl (stepC ps) (0, 0)
theorem got_C (h : Pks ps) (hm : ∀ p ∈ ps, p.1.toNat ≤ 30) (n : Int) : got ps n = gotC ps n := by
  unfold gotC
  by_cases c : 0 < n
  · rw [if_pos c]
    obtain ⟨m, le⟩ := got_spec h c
    have near := got_near h hm c
    obtain ⟨k, hk⟩ : ∃ k : Nat, got ps n = n + k := ⟨(got ps n - n).toNat, by omega⟩
    have hk30 : k < 30 := by omega
    have e : (got ps n).toNat = n.toNat + k := by omega
    rw [e] at m
    have : (List.range 30).findIdx (fun d => decide (pr ps n.toNat < pr ps (n.toNat + d + 1))) = k := by
      rw [List.findIdx_eq (by simpa using hk30)]
      constructor
      · simpa using m.2
      · intro j hj
        have hle : pr ps (n.toNat + j + 1) ≤ pr ps (n.toNat + k) := pr_mono h (by omega)
        have := m.1
        simp only [List.getElem_range, decide_eq_false_iff_not]
        omega
    rw [this, hk]
  · rw [if_neg c]
    unfold got; rw [if_neg c]
theorem paid_C (h : Pks ps) (hm : ∀ p ∈ ps, p.1.toNat ≤ 30) (ws : List Int) : paidFor ps ws = paidC ps ws := by
  have e : stepW ps = stepC ps := funext fun s => funext fun w => by unfold stepW stepC; simp only [got_C h hm]
  unfold paidFor paidC
  rw [e]
theorem OkShop.h30 (ok : OkShop ps) : ∀ p ∈ ps, p.1.toNat ≤ 30 := fun p hp => by have := (ok.ok p hp).2.1; omega
end
end PK

/-! Plain Lean: wishes: what is paid covers what one gets; the dearest wishes. -/
namespace PK
section
variable {ps qs : List Pack}
theorem mf_congr (e : ∀ n, pr ps n = pr qs n) (t : Int) : mf ps t = mf qs t := by
  unfold mf
  have : MostFor ps t = MostFor qs t := by funext r; unfold MostFor; rw [e, e]
  rw [this]
theorem got_congr (e : ∀ n, pr ps n = pr qs n) (n : Int) : got ps n = got qs n := by unfold got; rw [e, mf_congr e]
theorem stepW_congr (e : ∀ n, pr ps n = pr qs n) : stepW ps = stepW qs := by
  funext s w
  unfold stepW
  dsimp only
  rw [e, got_congr e]
theorem paidFor_congr (e : ∀ n, pr ps n = pr qs n) (ws : List Int) : paidFor ps ws = paidFor qs ws := by unfold paidFor; rw [stepW_congr e]
/-- a wish of which nothing is missing -/
theorem stepW_have {s : Int × Int} {w : Int} (h : w ≤ s.2) : stepW ps s w = (s.1, s.2 - w) := by
  unfold stepW
  dsimp only
  rw [if_neg (by omega), got_zero, show (0 : Int).toNat = 0 from rfl, pr_zero]
  apply Prod.ext <;> dsimp only <;> omega
theorem stepW_need {s : Int × Int} {w : Int} (h : s.2 < w) : stepW ps s w = (s.1 + pr ps (w - s.2).toNat, s.2 + got ps (w - s.2) - w) := by
  unfold stepW
  dsimp only
  rw [if_pos (by omega)]
theorem got_pr (h : Pks ps) {n : Int} (hn : 0 ≤ n) : pr ps (got ps n).toNat = pr ps n.toNat := by
  by_cases c : 0 < n
  · have m := got_spec h c
    have := m.1.1
    have := pr_mono h (show n.toNat ≤ (got ps n).toNat by omega)
    omega
  · have : n = 0 := by omega
    subst this; rw [got_zero]
theorem got_ge (h : Pks ps) {n : Int} (hn : 0 ≤ n) : n ≤ got ps n := by
  by_cases c : 0 < n
  · exact (got_spec h c).2
  · have : n = 0 := by omega
    subst this; rw [got_zero]; exact Int.le_refl _
theorem paid_one (h : Pks ps) {w : Int} (hw : 0 ≤ w) : paidFor ps [w] = (pr ps w.toNat, got ps w - w) := by
  show stepW ps (0, 0) w = _
  by_cases c : 0 < w
  · rw [stepW_need (by exact c)]
    apply Prod.ext
    · show 0 + pr ps (w - 0).toNat = _; rw [Int.sub_zero]; omega
    · show 0 + got ps (w - 0) - w = _; rw [Int.sub_zero]; omega
  · have : w = 0 := by omega
    subst this
    rw [stepW_have (by exact Int.le_refl _), got_zero]; rfl
/-- what is paid is at least the price for all that one gets -/
theorem fold_cover (h : Pks ps) : ∀ (ws : List Int) (s : Int × Int) (t : Int), 0 ≤ t → 0 ≤ s.2 → (∀ w ∈ ws, 0 ≤ w) → pr ps (t + s.2).toNat ≤ s.1 →
    0 ≤ (ws.foldl (stepW ps) s).2 ∧ pr ps (t + ws.sum + (ws.foldl (stepW ps) s).2).toNat ≤ (ws.foldl (stepW ps) s).1
  | [], s, t, t0, s0, _, k => ⟨s0, by rw [List.sum_nil, Int.add_zero]; exact k⟩
  | w :: r, s, t, t0, s0, hw, k => by
    have w0 := hw w List.mem_cons_self
    rw [List.foldl_cons, List.sum_cons]
    have hr : ∀ x ∈ r, 0 ≤ x := fun x hx => hw x (List.mem_cons_of_mem _ hx)
    have e : t + (w + r.sum) = t + w + r.sum := by omega
    rw [e]
    by_cases c : s.2 < w
    · rw [stepW_need c]
      have g1 := got_ge h (show 0 ≤ w - s.2 by omega)
      have g2 := got_pr h (show 0 ≤ w - s.2 by omega)
      refine fold_cover h r _ (t + w) (by omega) (by show 0 ≤ s.2 + got ps (w - s.2) - w; omega) hr ?_
      show pr ps (t + w + (s.2 + got ps (w - s.2) - w)).toNat ≤ s.1 + pr ps (w - s.2).toNat
      have e2 : (t + w + (s.2 + got ps (w - s.2) - w)).toNat = (t + s.2).toNat + (got ps (w - s.2)).toNat := by omega
      rw [e2]
      have := pr_add h (t + s.2).toNat (got ps (w - s.2)).toNat
      omega
    · rw [stepW_have (by omega)]
      refine fold_cover h r _ (t + w) (by omega) (by show 0 ≤ s.2 - w; omega) hr ?_
      show pr ps (t + w + (s.2 - w)).toNat ≤ s.1
      rw [show t + w + (s.2 - w) = t + s.2 by omega]; exact k
theorem paid_cover (h : Pks ps) {ws : List Int} (hw : ∀ w ∈ ws, 0 ≤ w) : 0 ≤ (paidFor ps ws).2 ∧ pr ps (ws.sum + (paidFor ps ws).2).toNat ≤ (paidFor ps ws).1 := by
  have := fold_cover h ws (0, 0) 0 (Int.le_refl _) (Int.le_refl _) hw (by show pr ps 0 ≤ 0; rw [pr_zero]; exact Int.le_refl _)
  rw [Int.zero_add] at this
  exact this
theorem sum_nn : ∀ {ws : List Int}, (∀ w ∈ ws, 0 ≤ w) → 0 ≤ ws.sum
  | [], _ => Int.le_refl _
  | w :: r, h => by
    have := h w List.mem_cons_self
    have := sum_nn (ws := r) fun x hx => h x (List.mem_cons_of_mem _ hx)
    rw [List.sum_cons]; omega
theorem paid_ge (h : Pks ps) {ws : List Int} (hw : ∀ w ∈ ws, 0 ≤ w) : pr ps ws.sum.toNat ≤ (paidFor ps ws).1 := by
  obtain ⟨a, b⟩ := paid_cover h hw
  have := sum_nn hw
  exact Int.le_trans (pr_mono h (by omega)) b
theorem sum_app (a b : List Int) : (a ++ b).sum = a.sum + b.sum := by
  induction a with
  | nil => simp
  | cons x r ih => rw [List.cons_append, List.sum_cons, List.sum_cons, ih]; omega
/-! ### the dearest -/
def maxL : List Int → Int
  | [] => 0
  | [a] => a
  | a :: b :: r => if maxL (b :: r) ≤ a then a else maxL (b :: r)
theorem maxL_spec : ∀ {l : List Int}, l ≠ [] → maxL l ∈ l ∧ ∀ y ∈ l, y ≤ maxL l
  | [], h => absurd rfl h
  | [a], _ => ⟨by simp [maxL], by simp [maxL]⟩
  | a :: b :: r, _ => by
    obtain ⟨hm, hx⟩ := maxL_spec (l := b :: r) (by simp)
    rw [show maxL (a :: b :: r) = if maxL (b :: r) ≤ a then a else maxL (b :: r) from rfl]
    split
    · exact ⟨by simp, fun y hy => by
        rcases List.mem_cons.mp hy with e | e
        · omega
        · have := hx y e; omega⟩
    · exact ⟨List.mem_cons_of_mem _ hm, fun y hy => by
        rcases List.mem_cons.mp hy with e | e
        · omega
        · exact hx y e⟩
/-- a table of the most that is paid, by prices f and pieces g -/
def dtab (f : Nat → Int) (g : Nat → Nat) : Nat → List Int
  | 0 => [0]
  | n + 1 => dtab f g n ++ [maxL ((List.range (n + 1)).map fun m => f (m + 1) + (dtab f g n).getD (n + 1 - g (m + 1)) 0)]
theorem dtab_len (f : Nat → Int) (g : Nat → Nat) : ∀ n, (dtab f g n).length = n + 1
  | 0 => rfl
  | n + 1 => by rw [dtab, List.length_append, dtab_len f g n]; rfl
def dvF (f : Nat → Int) (g : Nat → Nat) (n : Nat) : Int := (dtab f g n).getD n 0
theorem dtab_getD (f : Nat → Int) (g : Nat → Nat) : ∀ (n k : Nat), k ≤ n → (dtab f g n).getD k 0 = dvF f g k
  | 0, k, h => by have : k = 0 := by omega
                  subst this; rfl
  | n + 1, k, h => by
    by_cases c : k = n + 1
    · subst c; rfl
    · rw [dtab, List.getD_eq_getElem?_getD, List.getElem?_append_left (by rw [dtab_len]; omega), ← List.getD_eq_getElem?_getD]
      exact dtab_getD f g n k (by omega)
theorem dvF_zero (f : Nat → Int) (g : Nat → Nat) : dvF f g 0 = 0 := rfl
theorem dvF_succ (f : Nat → Int) (g : Nat → Nat) (hg : ∀ n, 1 ≤ n → n ≤ g n) (n : Nat) : dvF f g (n + 1) = maxL ((List.range (n + 1)).map fun m => f (m + 1) + dvF f g (n + 1 - g (m + 1))) := by
  unfold dvF
  rw [dtab, List.getD_eq_getElem?_getD, List.getElem?_append_right (by rw [dtab_len]; omega), dtab_len]
  rw [show n + 1 - (n + 1) = 0 by omega]
  show maxL _ = _
  congr 1
  apply List.map_congr_left
  intro m _
  have := hg (m + 1) (by omega)
  rw [dtab_getD _ _ _ _ (by omega)]; rfl
/-- the most that is paid for so many pieces -/
noncomputable def dv (ps : List Pack) (n : Nat) : Int := dvF (pr ps) (fun m => (got ps m).toNat) n
theorem got_nat (h : Pks ps) (n : Nat) : n ≤ (got ps n).toNat := by
  have := got_ge h (show (0 : Int) ≤ n by omega)
  omega
theorem dv_zero (ps : List Pack) : dv ps 0 = 0 := rfl
theorem dv_le (h : Pks ps) {m n : Nat} (h1 : 1 ≤ m) (hm : m ≤ n) : pr ps m + dv ps (n - (got ps m).toNat) ≤ dv ps n := by
  cases n with
  | zero => omega
  | succ n =>
    unfold dv
    rw [dvF_succ _ _ (fun n _ => got_nat h n)]
    refine (maxL_spec (l := (List.range (n + 1)).map _) (by simp)).2 _ (List.mem_map.mpr ⟨m - 1, List.mem_range.mpr (by omega), ?_⟩)
    rw [show m - 1 + 1 = m by omega]
theorem dv_ex (h : Pks ps) {n : Nat} (hn : 1 ≤ n) : ∃ m, 1 ≤ m ∧ m ≤ n ∧ dv ps n = pr ps m + dv ps (n - (got ps m).toNat) := by
  cases n with
  | zero => omega
  | succ n =>
    have := (maxL_spec (l := (List.range (n + 1)).map fun m => pr ps (m + 1) + dvF (pr ps) (fun m => (got ps m).toNat) (n + 1 - (got ps ((m + 1 : Nat) : Int)).toNat)) (by simp)).1
    obtain ⟨m, hm, e⟩ := List.mem_map.mp this
    refine ⟨m + 1, by omega, by have := List.mem_range.mp hm; omega, ?_⟩
    unfold dv
    rw [dvF_succ _ _ (fun n _ => got_nat h n)]
    exact e.symm
/-- no wishes pay more -/
theorem fold_dv (h : Pks ps) : ∀ (ws : List Int) (s : Int × Int), 0 ≤ s.2 → (∀ w ∈ ws, 0 ≤ w) → (ws.foldl (stepW ps) s).1 ≤ s.1 + dv ps (ws.sum - s.2).toNat
  | [], s, s0, _ => by
    rw [List.sum_nil, show (0 - s.2).toNat = 0 by omega, dv_zero]
    show s.1 ≤ s.1 + 0; omega
  | w :: r, s, s0, hw => by
    have w0 := hw w List.mem_cons_self
    have hr : ∀ x ∈ r, 0 ≤ x := fun x hx => hw x (List.mem_cons_of_mem _ hx)
    have r0 := sum_nn hr
    rw [List.foldl_cons, List.sum_cons]
    by_cases c : s.2 < w
    · rw [stepW_need c]
      have g1 := got_ge h (show 0 ≤ w - s.2 by omega)
      have ih := fold_dv h r (s.1 + pr ps (w - s.2).toNat, s.2 + got ps (w - s.2) - w) (by show 0 ≤ s.2 + got ps (w - s.2) - w; omega) hr
      refine Int.le_trans ih ?_
      dsimp only
      have d := dv_le h (m := (w - s.2).toNat) (n := (w + r.sum - s.2).toNat) (by omega) (by omega)
      rw [show (((w - s.2).toNat : Nat) : Int) = w - s.2 by omega] at d
      rw [show (r.sum - (s.2 + got ps (w - s.2) - w)).toNat = (w + r.sum - s.2).toNat - (got ps (w - s.2)).toNat by omega]
      omega
    · rw [stepW_have (by omega)]
      have ih := fold_dv h r (s.1, s.2 - w) (by show 0 ≤ s.2 - w; omega) hr
      rw [show w + r.sum - s.2 = r.sum - (s.2 - w) by omega]
      exact ih
theorem paid_dv (h : Pks ps) {ws : List Int} (hw : ∀ w ∈ ws, 0 ≤ w) : (paidFor ps ws).1 ≤ dv ps ws.sum.toNat := by
  have := fold_dv h ws (0, 0) (Int.le_refl _) hw
  dsimp only at this
  rw [Int.sub_zero, Int.zero_add] at this
  exact this
/-- some wishes pay it -/
theorem dv_ways (h : Pks ps) : ∀ (k n : Nat), n ≤ k → ∀ s : Int × Int, 0 ≤ s.2 → ∃ ws : List Int, (∀ w ∈ ws, 0 ≤ w) ∧ ws.sum = n + s.2 ∧ (ws.foldl (stepW ps) s).1 = s.1 + dv ps n
  | k, 0, _, s, s0 => ⟨[s.2], by simpa using s0, by simp, by
      show (stepW ps s s.2).1 = _
      rw [stepW_have (Int.le_refl _), dv_zero, Int.add_zero]⟩
  | 0, n + 1, hk, s, s0 => by omega
  | k + 1, n + 1, hk, s, s0 => by
    obtain ⟨m, m1, m2, e⟩ := dv_ex h (show 1 ≤ n + 1 by omega)
    have gm := got_nat h m
    have e1 : (m : Int) + s.2 - s.2 = m := by omega
    have st : stepW ps s (m + s.2) = (s.1 + pr ps m, got ps m - m) := by
      rw [stepW_need (by omega), e1, Int.toNat_natCast]
      apply Prod.ext <;> dsimp only; omega
    by_cases c : (got ps m).toNat ≤ n + 1
    · obtain ⟨ws, w1, w2, w3⟩ := dv_ways h k (n + 1 - (got ps m).toNat) (by omega) (s.1 + pr ps m, got ps m - m) (by show 0 ≤ got ps m - m; omega)
      refine ⟨(m + s.2) :: ws, fun w hw => ?_, ?_, ?_⟩
      · rcases List.mem_cons.mp hw with e | e
        · omega
        · exact w1 w e
      · rw [List.sum_cons, w2]; dsimp only; omega
      · rw [List.foldl_cons, st, w3, e]; dsimp only; omega
    · refine ⟨[(m : Int) + s.2, ((n + 1 - m : Nat) : Int)], ?_, ?_, ?_⟩
      · intro w hw
        simp only [List.mem_cons, List.not_mem_nil, or_false] at hw
        rcases hw with e | e <;> omega
      · simp only [List.sum_cons, List.sum_nil]; omega
      · rw [List.foldl_cons, st, e, show n + 1 - (got ps m).toNat = 0 by omega, dv_zero]
        show (stepW ps _ _).1 = _
        rw [stepW_have (by dsimp only; omega)]
        dsimp only; omega
theorem dv_wishes (h : Pks ps) (n : Nat) : ∃ ws : List Int, (∀ w ∈ ws, 0 ≤ w) ∧ ws.sum = n ∧ (paidFor ps ws).1 = dv ps n := by
  obtain ⟨ws, a, b, c⟩ := dv_ways h n n (Nat.le_refl _) (0, 0) (Int.le_refl _)
  refine ⟨ws, a, by rw [b]; dsimp only; omega, ?_⟩
  show (ws.foldl (stepW ps) (0, 0)).1 = _
  rw [c]; dsimp only; omega
theorem dv_up1 (h : Pks ps) (n : Nat) : dv ps n ≤ dv ps (n + 1) := by
  obtain ⟨ws, a, b, c⟩ := dv_wishes h n
  have hw : ∀ w ∈ ws ++ [1], (0 : Int) ≤ w := fun w hw => by
    rcases List.mem_append.mp hw with e | e
    · exact a w e
    · rw [List.mem_singleton.mp e]; decide
  have d := paid_dv h hw
  rw [sum_app, b, show ([1] : List Int).sum = 1 from rfl, show ((n : Int) + 1).toNat = n + 1 by omega, paidFor_app] at d
  have := fold_more h [1] (paidFor ps ws)
  omega
theorem dv_mono (h : Pks ps) {a b : Nat} (hab : a ≤ b) : dv ps a ≤ dv ps b := by
  induction b with
  | zero => have : a = 0 := by omega
            subst this; exact Int.le_refl _
  | succ b ih =>
    by_cases c : a = b + 1
    · subst c; exact Int.le_refl _
    · have := ih (by omega)
      have := dv_up1 h b
      omega
theorem dv_one (h : Pks ps) : ∀ (k n : Nat), n ≤ k → dv ps (n + 1) ≤ dv ps n + pr ps 1
  | 0, n, hk => by
    have : n = 0 := by omega
    subst this
    obtain ⟨m, m1, m2, e⟩ := dv_ex h (show 1 ≤ 0 + 1 by omega)
    have : m = 1 := by omega
    subst this
    have := got_nat h 1
    rw [e, show 0 + 1 - (got ps ((1 : Nat) : Int)).toNat = 0 by omega, dv_zero]; omega
  | k + 1, n, hk => by
    obtain ⟨m, m1, m2, e⟩ := dv_ex h (show 1 ≤ n + 1 by omega)
    have gm := got_nat h m
    by_cases c1 : m = 1
    · subst c1
      have := dv_mono h (show n + 1 - (got ps ((1 : Nat) : Int)).toNat ≤ n by omega)
      rw [e]; omega
    · have g0 : (0 : Int) < ((m - 1 : Nat) : Int) := by omega
      have gs := got_spec h g0
      rw [Int.toNat_natCast] at gs
      have gm1 := got_nat h (m - 1)
      have a1 := pr_add h (m - 1) 1
      rw [show m - 1 + 1 = m by omega] at a1
      by_cases c : m ≤ (got ps ((m - 1 : Nat) : Int)).toNat
      · have p1 := pr_mono h c
        have p2 := pr_mono h (show m - 1 ≤ m by omega)
        have e1 : pr ps m = pr ps (m - 1) := by have := gs.1.1; omega
        have e2 : got ps ((m - 1 : Nat) : Int) = got ps (m : Int) := by
          unfold got
          rw [if_pos g0, if_pos (by omega), Int.toNat_natCast, Int.toNat_natCast, e1]
        rw [e2] at c gm1 gs
        have d := dv_le h (m := m - 1) (n := n) (by omega) (by omega)
        rw [e2] at d
        by_cases c3 : (got ps m).toNat ≤ n
        · have ih := dv_one h k (n - (got ps m).toNat) (by omega)
          rw [show n - (got ps m).toNat + 1 = n + 1 - (got ps m).toNat by omega] at ih
          rw [e, e1]; omega
        · rw [show n + 1 - (got ps m).toNat = n - (got ps m).toNat by omega] at e
          have := pr_nonneg h 1
          rw [e, e1]; omega
      · have d := dv_le h (m := m - 1) (n := n) (by omega) (by omega)
        have := dv_mono h (show n + 1 - (got ps m).toNat ≤ n - (got ps ((m - 1 : Nat) : Int)).toNat by omega)
        rw [e]; omega
theorem dv_next (h : Pks ps) (n : Nat) : dv ps (n + 1) ≤ dv ps n + pr ps 1 := dv_one h n n (Nat.le_refl _)
theorem dv_ge (h : Pks ps) (n : Nat) : pr ps n ≤ dv ps n := by
  have := paid_dv h (ws := [(n : Int)]) (by simp)
  rw [paid_one h (by omega)] at this
  simpa using this
theorem dv_top (h : Pks ps) : ∀ n : Nat, dv ps n ≤ n * pr ps 1
  | 0 => by rw [dv_zero]; simp
  | n + 1 => by
    have := dv_top h n
    have := dv_next h n
    rw [show ((n + 1 : Nat) : Int) = n + 1 by omega, Int.add_mul, Int.one_mul]; omega
theorem dv_congr (e : ∀ n, pr ps n = pr qs n) (n : Nat) : dv ps n = dv qs n := by
  unfold dv
  have e1 : pr ps = pr qs := funext e
  have e2 : (fun m : Nat => (got ps m).toNat) = fun m : Nat => (got qs m).toNat := by funext m; rw [got_congr e]
  rw [e1, e2]
theorem dv_C (h : Pks ps) (hm : ∀ p ∈ ps, p.1.toNat ≤ 30) (n : Nat) : dv ps n = dvF (pr ps) (fun m => (gotC ps m).toNat) n := by
  unfold dv
  have e2 : (fun m : Nat => (got ps m).toNat) = fun m : Nat => (gotC ps m).toNat := by funext m; rw [got_C h hm]
  rw [e2]
end
end PK

/-! Plain Lean: single pieces one after another; one needed pack; wishes of whole needed packs. -/
namespace PK
section
variable {ps qs : List Pack}
/-- a needed pack: its price is the price for its size, and one gets just its size for it -/
theorem needed_got (ok : OkShop ps) {p : Pack} (hp : p ∈ ps) : pr ps p.1.toNat = p.2 ∧ got ps p.1 = p.1 ∧ 1 ≤ p.1 := by
  have hP := ok.pks
  have hm : p ∈ neededOf ps := by rw [ok.idem]; exact hp
  obtain ⟨h1, he, h3⟩ := (mem_needed hP).mp hm
  refine ⟨h3.symm, ?_, h1⟩
  unfold got
  rw [if_pos (by omega)]
  have : MostFor ps (pr ps p.1.toNat) p.1.toNat := ⟨Int.le_refl _, he.2.1⟩
  rw [mf_eq hP this]; omega
theorem first_least (ok : OkShop ps) {p : Pack} {r : List Pack} (e : ps = p :: r) : pr ps 1 = p.2 ∧ got ps 1 = p.1 := by
  have hP := ok.pks
  have hp : p ∈ ps := by rw [e]; exact List.mem_cons_self
  obtain ⟨a1, a2, a3⟩ := needed_got ok hp
  have up : ps.Pairwise fun p q => p.1 < q.1 ∧ p.2 < q.2 := by have := needed_up hP; rwa [ok.idem] at this
  have le : pr ps 1 ≤ p.2 := by rw [← a1]; exact pr_mono hP (by omega)
  obtain ⟨q, hq, eq⟩ := pr_ex hP (show 1 ≤ 1 by omega)
  have sq := hP.s q hq
  rw [show 1 - q.1.toNat = 0 by omega, pr_zero, Int.add_zero] at eq
  have ge : p.2 ≤ q.2 := by
    rw [e] at hq up
    rcases List.mem_cons.mp hq with h | h
    · rw [h]; exact Int.le_refl _
    · have := (List.pairwise_cons.mp up).1 q h; omega
  have e1 : pr ps 1 = p.2 := by omega
  refine ⟨e1, ?_⟩
  unfold got at a2 ⊢
  rw [if_pos (by omega)] at a2
  rw [if_pos (by omega), show (1 : Int).toNat = 1 from rfl, e1, ← a1]
  exact a2
theorem ceil_of {n s k : Int} (h1 : 0 ≤ k * s - n) (h2 : k * s - n < s) : (n + s - 1) / s = k := by
  have hs : 0 < s := by omega
  have e : n + s - 1 = (s - 1 - (k * s - n)) + s * k := by rw [Int.mul_comm s k]; omega
  rw [e, Int.add_mul_ediv_left _ _ (by omega), Int.ediv_eq_zero_of_lt (by omega) (by omega), Int.zero_add]
/-- single pieces one after another -/
theorem ones_fold {s p : Int} (hs : 1 ≤ s) (h1 : pr ps 1 = p) (h2 : got ps 1 = s) : ∀ n : Nat, ∃ k : Int, 0 ≤ k ∧ (List.replicate n (1 : Int)).foldl (stepW ps) (0, 0) = (k * p, k * s - n) ∧ 0 ≤ k * s - n ∧ k * s - n < s
  | 0 => ⟨0, Int.le_refl _, by simp, by simp, by simp; omega⟩
  | n + 1 => by
    obtain ⟨k, k0, e, l0, l1⟩ := ones_fold hs h1 h2 n
    rw [List.replicate_succ', List.foldl_append, e]
    show ∃ k', 0 ≤ k' ∧ stepW ps (k * p, k * s - n) 1 = _ ∧ _
    by_cases c : 1 ≤ k * s - n
    · refine ⟨k, k0, ?_, by omega, by omega⟩
      rw [stepW_have (by exact c)]
      apply Prod.ext <;> dsimp only; omega
    · have z : k * s - n = 0 := by omega
      refine ⟨k + 1, by omega, ?_, by rw [Int.add_mul]; omega, by rw [Int.add_mul]; omega⟩
      rw [z, stepW_need (by show (0 : Int) < 1; decide)]
      show (k * p + pr ps (1 - 0 : Int).toNat, 0 + got ps (1 - 0) - 1) = _
      rw [show (1 - 0 : Int) = 1 from rfl, show (1 : Int).toNat = 1 from rfl, h1, h2, Int.add_mul, Int.add_mul]
      apply Prod.ext <;> dsimp only <;> omega
theorem ones_paid (ok : OkShop ps) {p : Pack} {r : List Pack} (e : ps = p :: r) (n : Nat) : paidFor ps (List.replicate n 1) = (((n : Int) + p.1 - 1) / p.1 * p.2, ((n : Int) + p.1 - 1) / p.1 * p.1 - n) := by
  obtain ⟨a, b⟩ := first_least ok e
  have hp : p ∈ ps := by rw [e]; exact List.mem_cons_self
  obtain ⟨k, k0, ef, l0, l1⟩ := ones_fold (needed_got ok hp).2.2 a b n
  rw [ceil_of l0 l1]
  exact ef
theorem sum_rep (n : Nat) (a : Int) : (List.replicate n a).sum = n * a := by
  induction n with
  | zero => simp
  | succ n ih => rw [List.replicate_succ, List.sum_cons, ih, show ((n + 1 : Nat) : Int) = n + 1 by omega, Int.add_mul]; omega
theorem dv_ones (ok : OkShop ps) {p : Pack} {r : List Pack} (e : ps = p :: r) (n : Nat) : ((n : Int) + p.1 - 1) / p.1 * p.2 ≤ dv ps n := by
  have := paid_dv ok.pks (ws := List.replicate n 1) (fun w hw => by rw [List.eq_of_mem_replicate hw]; decide)
  rw [ones_paid ok e, sum_rep, Int.mul_one, Int.toNat_natCast] at this
  exact this
/-- wishes of whole needed packs -/
theorem whole_fold {s p : Int} (hs : 1 ≤ s) (h1 : pr ps s.toNat = p) (h2 : got ps s = s) : ∀ n : Nat, (List.replicate n s).foldl (stepW ps) (0, 0) = ((n : Int) * p, 0)
  | 0 => by simp
  | n + 1 => by
    rw [List.replicate_succ', List.foldl_append, whole_fold hs h1 h2 n]
    show stepW ps ((n : Int) * p, 0) s = _
    rw [stepW_need (by show 0 < s; omega)]
    show ((n : Int) * p + pr ps (s - 0).toNat, 0 + got ps (s - 0) - s) = _
    rw [Int.sub_zero, h1, h2, show ((n + 1 : Nat) : Int) = n + 1 by omega, Int.add_mul]
    apply Prod.ext <;> dsimp only <;> omega
theorem whole_paid (ok : OkShop ps) {p : Pack} (hp : p ∈ ps) (n : Nat) : paidFor ps (List.replicate n p.1) = ((n : Int) * p.2, 0) := by
  obtain ⟨a, b, c⟩ := needed_got ok hp
  exact whole_fold c a b n
/-! ### one needed pack -/
theorem one_fold (ok : OkShop ps) {p : Pack} (e : ps = [p]) : ∀ m : Nat, ∃ k : Int, 0 ≤ k ∧ pr ps m = k * p.2 ∧ 0 ≤ k * p.1 - m ∧ k * p.1 - m < p.1 := by
  have hP := ok.pks
  have s1 := hP.s p (by rw [e]; simp)
  intro m
  induction m using Nat.strongRecOn with
  | ind m ih =>
    cases m with
    | zero => exact ⟨0, Int.le_refl _, by rw [pr_zero]; simp, by simp, by simp; omega⟩
    | succ m =>
      obtain ⟨q, hq, eq⟩ := pr_ex hP (show 1 ≤ m + 1 by omega)
      rw [e, List.mem_singleton] at hq
      subst hq
      by_cases c : q.1.toNat ≤ m + 1
      · obtain ⟨k, k0, k1, k2, k3⟩ := ih (m + 1 - q.1.toNat) (by omega)
        have ek : (k + 1) * q.1 = k * q.1 + q.1 := by rw [Int.add_mul, Int.one_mul]
        refine ⟨k + 1, by omega, by rw [eq, k1, Int.add_mul, Int.one_mul]; omega, by omega, by omega⟩
      · refine ⟨1, by omega, ?_, by omega, by omega⟩
        rw [eq, show m + 1 - q.1.toNat = 0 by omega, pr_zero]; omega
theorem one_got (ok : OkShop ps) {p : Pack} (e : ps = [p]) {m : Int} (hm : 0 < m) {k : Int} (k1 : pr ps m.toNat = k * p.2) (k2 : 0 ≤ k * p.1 - m) (k3 : k * p.1 - m < p.1) : got ps m = k * p.1 := by
  have hP := ok.pks
  have s1 := hP.s p (by rw [e]; simp)
  have c1 := hP.c p (by rw [e]; simp)
  have hk : 0 ≤ k := by
    rcases Int.lt_or_le k 0 with h | h
    · have := Int.mul_le_mul_of_nonneg_right (show k ≤ -1 by omega) (show 0 ≤ p.1 by omega)
      omega
    · exact h
  have kp : 0 ≤ k * p.1 := Int.mul_nonneg hk (by omega)
  unfold got
  rw [if_pos hm]
  have mo : MostFor ps (pr ps m.toNat) (k * p.1).toNat := by
    obtain ⟨j, j0, j1, j2, j3⟩ := one_fold ok e (k * p.1).toNat
    obtain ⟨i, i0, i1, i2, i3⟩ := one_fold ok e ((k * p.1).toNat + 1)
    have ej : j = k := by
      rw [← ceil_of j2 j3]
      exact ceil_of (by omega) (by omega)
    have ei : i = k + 1 := by
      rw [← ceil_of i2 i3]
      have : (k + 1) * p.1 = k * p.1 + p.1 := by rw [Int.add_mul, Int.one_mul]
      exact ceil_of (by omega) (by omega)
    refine ⟨by rw [j1, k1, ej]; exact Int.le_refl _, ?_⟩
    rw [i1, k1, ei, Int.add_mul]; omega
  rw [mf_eq hP mo]; omega
theorem one_paid (ok : OkShop ps) {p : Pack} (e : ps = [p]) : ∀ (ws : List Int), (∀ w ∈ ws, 0 ≤ w) → ∀ (t k : Int), 0 ≤ k → 0 ≤ k * p.1 - t → k * p.1 - t < p.1 →
    ∃ k', 0 ≤ k' ∧ ws.foldl (stepW ps) (k * p.2, k * p.1 - t) = (k' * p.2, k' * p.1 - (t + ws.sum)) ∧ 0 ≤ k' * p.1 - (t + ws.sum) ∧ k' * p.1 - (t + ws.sum) < p.1
  | [], _, t, k, k0, a, b => ⟨k, k0, by simp, by simpa using a, by simpa using b⟩
  | w :: r, hw, t, k, k0, a, b => by
    have w0 := hw w List.mem_cons_self
    have hr : ∀ x ∈ r, 0 ≤ x := fun x hx => hw x (List.mem_cons_of_mem _ hx)
    rw [List.foldl_cons, List.sum_cons, show t + (w + r.sum) = t + w + r.sum by omega]
    by_cases c : k * p.1 - t < w
    · obtain ⟨j, j0, j1, j2, j3⟩ := one_fold ok e (w - (k * p.1 - t)).toNat
      rw [show (((w - (k * p.1 - t)).toNat : Nat) : Int) = w - (k * p.1 - t) by omega] at j2 j3
      have ej : (k + j) * p.1 = k * p.1 + j * p.1 := Int.add_mul _ _ _
      obtain ⟨k', q0, q1, q2, q3⟩ := one_paid ok e r hr (t + w) (k + j) (by omega) (by omega) (by omega)
      refine ⟨k', q0, ?_, q2, q3⟩
      rw [← q1, stepW_need (by exact c)]
      congr 1
      show (k * p.2 + pr ps (w - (k * p.1 - t)).toNat, k * p.1 - t + got ps (w - (k * p.1 - t)) - w) = _
      rw [one_got ok e (by omega) j1 j2 j3, j1, Int.add_mul]
      apply Prod.ext <;> dsimp only; omega
    · obtain ⟨k', q0, q1, q2, q3⟩ := one_paid ok e r hr (t + w) k k0 (by omega) (by omega)
      refine ⟨k', q0, ?_, q2, q3⟩
      rw [← q1, stepW_have (by show w ≤ k * p.1 - t; omega)]
      congr 1
      apply Prod.ext <;> dsimp only; omega
theorem single_paid (ok : OkShop ps) {p : Pack} (e : ps = [p]) {ws : List Int} (hw : ∀ w ∈ ws, 0 ≤ w) : paidFor ps ws = ((ws.sum + p.1 - 1) / p.1 * p.2, (ws.sum + p.1 - 1) / p.1 * p.1 - ws.sum) := by
  have s1 := ok.pks.s p (by rw [e]; simp)
  obtain ⟨k, k0, a, b, c⟩ := one_paid ok e ws hw 0 0 (Int.le_refl _) (by simp) (by simp; omega)
  rw [Int.zero_mul, Int.zero_mul, Int.sub_zero] at a
  rw [Int.zero_add] at a b c
  rw [ceil_of b c]
  exact a
theorem single_pr (ok : OkShop ps) {p : Pack} (e : ps = [p]) (n : Nat) : pr ps n = ((n : Int) + p.1 - 1) / p.1 * p.2 := by
  obtain ⟨k, k0, a, b, c⟩ := one_fold ok e n
  rw [ceil_of b c]; exact a
theorem single_dv (ok : OkShop ps) {p : Pack} (e : ps = [p]) (n : Nat) : dv ps n = pr ps n := by
  obtain ⟨ws, a, b, c⟩ := dv_wishes ok.pks n
  rw [← c, single_paid ok e a, single_pr ok e, b]
/-! ### two needed packs or more -/
theorem cost_rep (n : Nat) (p : Pack) : cost (List.replicate n p) = n * p.2 := by
  induction n with
  | zero => simp [cost]
  | succ n ih => rw [List.replicate_succ, cost_cons, ih, show ((n + 1 : Nat) : Int) = n + 1 by omega, Int.add_mul]; omega
theorem size_rep (n : Nat) (p : Pack) : size (List.replicate n p) = n * p.1.toNat := by
  induction n with
  | zero => simp [size]
  | succ n ih => rw [List.replicate_succ, size_cons, ih, Nat.add_mul]; omega
theorem second_dear (ok : OkShop ps) {p q : Pack} {r : List Pack} (e : ps = p :: q :: r) : pr ps q.1.toNat < (q.1 + p.1 - 1) / p.1 * p.2 := by
  have hP := ok.pks
  have hq : q ∈ ps := by rw [e]; simp
  have hp : p ∈ ps := by rw [e]; simp
  rw [(needed_got ok hq).1]
  have s1 := hP.s p hp
  have t1 := hP.s q hq
  have ir := irr_neededOf hP
  rw [ok.idem] at ir
  obtain ⟨k, k0, k2, k3⟩ : ∃ k : Int, 0 ≤ k ∧ 0 ≤ k * p.1 - q.1 ∧ k * p.1 - q.1 < p.1 := by
    refine ⟨(q.1 + p.1 - 1) / p.1, Int.ediv_nonneg (by omega) (by omega), ?_, ?_⟩
    · have d1 := Int.mul_ediv_add_emod (q.1 + p.1 - 1) p.1
      have d2 := Int.emod_lt_of_pos (q.1 + p.1 - 1) (b := p.1) (by omega)
      rw [Int.mul_comm] at d1
      omega
    · have d1 := Int.mul_ediv_add_emod (q.1 + p.1 - 1) p.1
      have d3 := Int.emod_nonneg (q.1 + p.1 - 1) (b := p.1) (by omega)
      rw [Int.mul_comm] at d1
      omega
  rw [ceil_of k2 k3]
  have ne : p ≠ q := by
    have up : ps.Pairwise fun p q => p.1 < q.1 ∧ p.2 < q.2 := by have := needed_up hP; rwa [ok.idem] at this
    rw [e] at up
    have := (List.pairwise_cons.mp up).1 q (by simp)
    intro h; rw [h] at this; omega
  have := ir q hq (List.replicate k.toNat p) (fun x hx => by rw [List.eq_of_mem_replicate hx]; exact hp) (fun hx => ne (List.eq_of_mem_replicate hx).symm) (by
    rw [size_rep]
    have e1 : ((k.toNat * p.1.toNat : Nat) : Int) = k * p.1 := by rw [Int.natCast_mul]; congr 1 <;> omega
    omega)
  rw [cost_rep, show ((k.toNat : Nat) : Int) = k by omega] at this
  exact this
theorem dv_more (ok : OkShop ps) {p q : Pack} {r : List Pack} (e : ps = p :: q :: r) : pr ps q.1.toNat < dv ps q.1.toNat := by
  have a := second_dear ok e
  have t1 := ok.pks.s q (by rw [e]; simp)
  have b := dv_ones ok e q.1.toNat
  rw [show ((q.1.toNat : Nat) : Int) = q.1 by omega] at b
  omega
end
end PK

/-! Plain Lean: beginnings of dearest wishes; all wishes that come to a number. -/
namespace PK
section
variable {ps qs : List Pack}
theorem mem_le_sum : ∀ {ws : List Int} {w : Int}, (∀ w ∈ ws, 0 ≤ w) → w ∈ ws → w ≤ ws.sum
  | a :: r, w, h, hm => by
    have hr : ∀ x ∈ r, 0 ≤ x := fun x hx => h x (List.mem_cons_of_mem _ hx)
    have h0 := h a List.mem_cons_self
    have := sum_nn hr
    rw [List.sum_cons]
    rcases List.mem_cons.mp hm with e | e
    · omega
    · have := mem_le_sum hr e; omega
theorem sum_take (ws : List Int) (c : Nat) : (ws.take c).sum + (ws.drop c).sum = ws.sum := by rw [← sum_app, List.take_append_drop]
theorem prefix_dv (h : Pks ps) {ws : List Int} (hw : ∀ w ∈ ws, 0 ≤ w) (e : (paidFor ps ws).1 = dv ps ws.sum.toNat) (c : Nat) :
    (paidFor ps (ws.take c)).1 + dv ps (ws.sum - (ws.take c).sum - (paidFor ps (ws.take c)).2).toNat = dv ps ws.sum.toNat := by
  have ht : ∀ w ∈ ws.take c, 0 ≤ w := fun w h => hw w (List.mem_of_mem_take h)
  have hd : ∀ w ∈ ws.drop c, 0 ≤ w := fun w h => hw w (List.mem_of_mem_drop h)
  have l0 := (paid_cover h ht).1
  have st := sum_take ws c
  have e2 : paidFor ps ws = (ws.drop c).foldl (stepW ps) (paidFor ps (ws.take c)) := by rw [← paidFor_app, List.take_append_drop]
  have up := fold_dv h (ws.drop c) (paidFor ps (ws.take c)) l0 hd
  rw [← e2, e] at up
  rw [show ws.sum - (ws.take c).sum = (ws.drop c).sum by omega]
  have lo : (paidFor ps (ws.take c)).1 + dv ps ((ws.drop c).sum - (paidFor ps (ws.take c)).2).toNat ≤ dv ps ws.sum.toNat := by
    by_cases cc : (ws.drop c).sum - (paidFor ps (ws.take c)).2 ≤ 0
    · rw [show ((ws.drop c).sum - (paidFor ps (ws.take c)).2).toNat = 0 by omega, dv_zero, ← e]
      have := paidFor_take h ws c
      omega
    · obtain ⟨vs, v1, v2, v3⟩ := dv_ways h _ ((ws.drop c).sum - (paidFor ps (ws.take c)).2).toNat (Nat.le_refl _) (paidFor ps (ws.take c)) l0
      rw [← v3, ← paidFor_app]
      have := paid_dv h (ws := ws.take c ++ vs) (fun w hw => by
        rcases List.mem_append.mp hw with h | h
        · exact ht w h
        · exact v1 w h)
      rw [sum_app, v2] at this
      rw [show ws.sum = (ws.take c).sum + ((((ws.drop c).sum - (paidFor ps (ws.take c)).2).toNat : Nat) + (paidFor ps (ws.take c)).2) by omega]
      exact this
  omega
/-! ### all wishes that come to a number -/
def sumsStep (t : List (List (List Int))) (n : Nat) : List (List Int) := (List.range (n + 1)).flatMap fun i => (t.getD (n - i) []).map (· ++ [(i : Int) + 1])
def sumsT : Nat → List (List (List Int))
  | 0 => [[[]]]
  | n + 1 => sumsT n ++ [sumsStep (sumsT n) n]
theorem sumsT_len : ∀ n, (sumsT n).length = n + 1
  | 0 => rfl
  | n + 1 => by rw [sumsT, List.length_append, sumsT_len n]; rfl
def sumsOf (n : Nat) : List (List Int) := (sumsT n).getD n []
theorem sumsT_getD : ∀ (n k : Nat), k ≤ n → (sumsT n).getD k [] = sumsOf k
  | 0, k, h => by have : k = 0 := by omega
                  subst this; rfl
  | n + 1, k, h => by
    by_cases c : k = n + 1
    · subst c; rfl
    · rw [sumsT, List.getD_eq_getElem?_getD, List.getElem?_append_left (by rw [sumsT_len]; omega), ← List.getD_eq_getElem?_getD]
      exact sumsT_getD n k (by omega)
theorem sumsOf_succ (n : Nat) : sumsOf (n + 1) = (List.range (n + 1)).flatMap fun i => (sumsOf (n - i)).map (· ++ [(i : Int) + 1]) := by
  show (sumsT (n + 1)).getD (n + 1) [] = _
  rw [sumsT, List.getD_eq_getElem?_getD, List.getElem?_append_right (by rw [sumsT_len]; omega), sumsT_len, show n + 1 - (n + 1) = 0 by omega]
  show sumsStep (sumsT n) n = _
  unfold sumsStep
  have : (fun i : Nat => ((sumsT n).getD (n - i) []).map (· ++ [(i : Int) + 1])) = fun i : Nat => (sumsOf (n - i)).map (· ++ [(i : Int) + 1]) := by
    funext i; rw [sumsT_getD _ _ (by omega)]
  rw [this]
theorem mem_sums : ∀ (k n : Nat), n ≤ k → ∀ ws : List Int, ws ∈ sumsOf n ↔ (∀ w ∈ ws, 1 ≤ w) ∧ ws.sum = n
  | k, 0, _, ws => by
    show ws ∈ [[]] ↔ _
    rw [List.mem_singleton]
    constructor
    · intro e; subst e; simp
    · intro ⟨a, b⟩
      cases ws with
      | nil => rfl
      | cons w r =>
        have := a w List.mem_cons_self
        have := sum_nn (ws := r) fun x hx => by have := a x (List.mem_cons_of_mem _ hx); omega
        rw [List.sum_cons] at b; omega
  | 0, n + 1, hk, ws => by omega
  | k + 1, n + 1, hk, ws => by
    rw [sumsOf_succ, List.mem_flatMap]
    constructor
    · rintro ⟨i, hi, hm⟩
      have hi := List.mem_range.mp hi
      obtain ⟨vs, hv, rfl⟩ := List.mem_map.mp hm
      obtain ⟨a, b⟩ := (mem_sums k (n - i) (by omega) vs).mp hv
      refine ⟨fun w hw => ?_, ?_⟩
      · rcases List.mem_append.mp hw with h | h
        · exact a w h
        · rw [List.mem_singleton.mp h]; omega
      · rw [sum_app, b]; simp only [List.sum_cons, List.sum_nil]; omega
    · intro ⟨a, b⟩
      have hne : ws ≠ [] := fun e => by subst e; simp at b; omega
      have el := List.dropLast_concat_getLast hne
      have l1 := a _ (List.getLast_mem hne)
      have ad : ∀ w ∈ ws.dropLast, 1 ≤ w := fun w hw => a w (List.dropLast_subset ws hw)
      have s0 := sum_nn (ws := ws.dropLast) fun w hw => by have := ad w hw; omega
      have sb : ws.dropLast.sum + ws.getLast hne = (n + 1 : Nat) := by
        rw [← b]; conv => rhs; rw [← el]
        rw [sum_app]; simp
      refine ⟨(ws.getLast hne - 1).toNat, List.mem_range.mpr (by omega), List.mem_map.mpr ⟨ws.dropLast, (mem_sums k _ (by omega) _).mpr ⟨ad, by omega⟩, ?_⟩⟩
      conv => rhs; rw [← el]
      congr 2
      omega
end
end PK

/-! Plain Lean: wishes without the empty ones; the dearest of all wishes. -/
namespace PK
section
variable {ps qs : List Pack}
theorem fold_filter (h : Pks ps) : ∀ (ws : List Int) (s : Int × Int), 0 ≤ s.2 → (∀ w ∈ ws, 0 ≤ w) → (ws.filter fun w => decide (1 ≤ w)).foldl (stepW ps) s = ws.foldl (stepW ps) s ∧ (ws.filter fun w => decide (1 ≤ w)).sum = ws.sum
  | [], s, _, _ => ⟨rfl, rfl⟩
  | w :: r, s, s0, hw => by
    have w0 := hw w List.mem_cons_self
    have hr : ∀ x ∈ r, 0 ≤ x := fun x hx => hw x (List.mem_cons_of_mem _ hx)
    by_cases c : 1 ≤ w
    · rw [List.filter_cons_of_pos (by simpa using c), List.foldl_cons, List.foldl_cons, List.sum_cons, List.sum_cons]
      have n0 : 0 ≤ (stepW ps s w).2 := by
        by_cases d : s.2 < w
        · rw [stepW_need d]
          have := got_ge h (show 0 ≤ w - s.2 by omega)
          show 0 ≤ s.2 + got ps (w - s.2) - w
          omega
        · rw [stepW_have (by omega)]; show 0 ≤ s.2 - w; omega
      obtain ⟨a, b⟩ := fold_filter h r (stepW ps s w) n0 hr
      exact ⟨a, by rw [b]⟩
    · have z : w = 0 := by omega
      subst z
      rw [List.filter_cons_of_neg (by simp), List.foldl_cons, List.sum_cons, stepW_have s0]
      obtain ⟨a, b⟩ := fold_filter h r s s0 hr
      refine ⟨?_, by rw [b]; omega⟩
      rw [a, Int.sub_zero]
theorem dv_max (h : Pks ps) (n : Nat) {m : Int} (hm : m ∈ (sumsOf n).map fun ws => (paidFor ps ws).1) (hx : ∀ y ∈ (sumsOf n).map fun ws => (paidFor ps ws).1, y ≤ m) : m = dv ps n := by
  obtain ⟨ws, hw, rfl⟩ := List.mem_map.mp hm
  obtain ⟨a, b⟩ := (mem_sums n n (Nat.le_refl _) ws).mp hw
  have up := paid_dv h (ws := ws) fun w hw => by have := a w hw; omega
  rw [b, Int.toNat_natCast] at up
  obtain ⟨vs, c, d, e⟩ := dv_wishes h n
  obtain ⟨f1, f2⟩ := fold_filter h vs (0, 0) (Int.le_refl _) c
  have := hx _ (List.mem_map.mpr ⟨vs.filter fun w => decide (1 ≤ w), (mem_sums n n (Nat.le_refl _) _).mpr ⟨fun w hw => by simpa using (List.mem_filter.mp hw).2, by rw [f2, d]⟩, rfl⟩)
  have e2 : paidFor ps (vs.filter fun w => decide (1 ≤ w)) = paidFor ps vs := f1
  rw [e2, e] at this
  omega
theorem sums_few : ∀ n, n < 9 → (sumsOf n).length ≤ 256 := by decide +kernel
theorem sums_part : ∀ n, n < 8 → ∀ j, j < n + 2 → ((List.range j).flatMap fun i => (sumsOf (n - i)).map (· ++ [(i : Int) + 1])).length ≤ 256 := by decide +kernel
end
end PK

/-! Plain Lean: people in groups. -/
namespace PK
/-! ### an order on lists -/
def lexB {α : Type} [DecidableEq α] (lt : α → α → Bool) : List α → List α → Bool
  | [], [] => false
  | [], _ :: _ => true
  | _ :: _, [] => false
  | a :: x, b :: y => if a = b then lexB lt x y else lt a b
structure Ord {α : Type} (lt : α → α → Bool) : Prop where
  irr : ∀ a, lt a a = false
  tr : ∀ a b c, lt a b = true → lt b c = true → lt a c = true
  tot : ∀ a b, lt a b = false → lt b a = false → a = b
theorem lexB_ord {α : Type} [DecidableEq α] {lt : α → α → Bool} (o : Ord lt) : Ord (lexB lt) := by
  refine ⟨fun a => ?_, fun a => ?_, fun a => ?_⟩
  · induction a with
    | nil => rfl
    | cons x r ih => simp only [lexB, if_pos]; exact ih
  · induction a with
    | nil =>
      intro b c h1 h2
      cases b with
      | nil => cases h1
      | cons y t =>
        cases c with
        | nil => cases h2
        | cons z u => rfl
    | cons x r ih =>
      intro b c h1 h2
      cases b with
      | nil => cases h1
      | cons y t =>
        cases c with
        | nil => cases h2
        | cons z u =>
          simp only [lexB] at h1 h2 ⊢
          by_cases e1 : x = y
          · subst e1
            rw [if_pos rfl] at h1
            by_cases e2 : x = z
            · subst e2
              rw [if_pos rfl] at h2 ⊢
              exact ih t u h1 h2
            · rw [if_neg e2] at h2 ⊢; exact h2
          · rw [if_neg e1] at h1
            by_cases e2 : y = z
            · subst e2
              rw [if_neg e1]; exact h1
            · rw [if_neg e2] at h2
              by_cases e3 : x = z
              · subst e3
                have := o.tr _ _ _ h1 h2
                rw [o.irr] at this; cases this
              · rw [if_neg e3]; exact o.tr _ _ _ h1 h2
  · induction a with
    | nil =>
      intro b h1 h2
      cases b with
      | nil => rfl
      | cons y t => cases h1
    | cons x r ih =>
      intro b h1 h2
      cases b with
      | nil => cases h2
      | cons y t =>
        simp only [lexB] at h1 h2
        by_cases e : x = y
        · subst e
          rw [if_pos rfl] at h1 h2
          rw [ih t h1 h2]
        · rw [if_neg e] at h1
          rw [if_neg (fun z => e z.symm)] at h2
          exact absurd (o.tot _ _ h1 h2) e
def ltInt (a b : Int) : Bool := decide (a < b)
theorem ltInt_ord : Ord ltInt := ⟨fun a => by simp [ltInt], fun a b c h k => by simp [ltInt] at *; omega, fun a b h k => by simp [ltInt] at *; omega⟩
def ltG : List (List Int) → List (List Int) → Bool := lexB (lexB ltInt)
theorem ltG_ord : Ord ltG := lexB_ord (lexB_ord ltInt_ord)
/-- rows (sum, groups) -/
abbrev GRow := Int × List (List Int)
def ltR (a b : GRow) : Bool := if a.1 = b.1 then ltG a.2 b.2 else decide (a.1 < b.1)
theorem ltR_ord : Ord ltR := by
  refine ⟨fun a => ?_, fun a b c h k => ?_, fun a b h k => ?_⟩
  · simp only [ltR, if_pos]; exact ltG_ord.irr _
  · simp only [ltR] at h k ⊢
    by_cases e1 : a.1 = b.1
    · by_cases e2 : b.1 = c.1
      · rw [if_pos e1] at h
        rw [if_pos e2] at k
        rw [if_pos (e1.trans e2)]; exact ltG_ord.tr _ _ _ h k
      · rw [if_neg e2] at k
        rw [if_neg (by omega), e1]; exact k
    · rw [if_neg e1] at h
      by_cases e2 : b.1 = c.1
      · rw [if_neg (by omega), ← e2]; exact h
      · rw [if_neg e2] at k
        have h := of_decide_eq_true h
        have k := of_decide_eq_true k
        rw [if_neg (by omega)]; exact decide_eq_true (by omega)
  · simp only [ltR] at h k
    by_cases e : a.1 = b.1
    · rw [if_pos e] at h
      rw [if_pos e.symm] at k
      exact Prod.ext e (ltG_ord.tot _ _ h k)
    · rw [if_neg e] at h
      rw [if_neg (fun z => e z.symm)] at k
      have h := of_decide_eq_false h
      have k := of_decide_eq_false k
      omega
theorem ltR_pre {a b : GRow} {c : Int} {g : List Int} : ltR (a.1 + c, g :: a.2) (b.1 + c, g :: b.2) = ltR a b := by
  simp only [ltR, ltG, lexB, if_pos]
  by_cases e : a.1 = b.1
  · rw [if_pos (by omega), if_pos e]
  · rw [if_neg (by omega), if_neg e]
    exact decide_eq_decide.mpr (by omega)
/-- the least of rows -/
theorem least_row : ∀ {l : List GRow}, l ≠ [] → ∃ m ∈ l, ∀ y ∈ l, ltR y m = false
  | [], h => absurd rfl h
  | a :: r, _ => by
    by_cases hr : r = []
    · subst hr; exact ⟨a, by simp, fun y hy => by rw [List.mem_singleton.mp hy]; exact ltR_ord.irr a⟩
    · obtain ⟨m, hm, hx⟩ := least_row hr
      cases c : ltR a m with
      | true =>
        refine ⟨a, by simp, fun y hy => ?_⟩
        rcases List.mem_cons.mp hy with e | e
        · subst e; exact ltR_ord.irr _
        · cases c2 : ltR y a with
          | false => rfl
          | true =>
            have := hx y e
            rw [ltR_ord.tr _ _ _ c2 c] at this; cases this
      | false =>
        refine ⟨m, List.mem_cons_of_mem _ hm, fun y hy => ?_⟩
        rcases List.mem_cons.mp hy with e | e
        · subst e; exact c
        · exact hx y e
/-! ### groups with the first person -/
def groupsW (most : Int) : List Int → List (List Int)
  | [] => []
  | p :: r => r.foldl (fun found person => found ++ (found.filter fun g => decide ((g.length : Int) < most)).map (· ++ [person])) [[p]]
theorem mem_groupsF (most : Int) : ∀ (r : List Int) (found : List (List Int)) (g : List Int), g ∈ r.foldl (fun found person => found ++ (found.filter fun g => decide ((g.length : Int) < most)).map (· ++ [person])) found ↔ ∃ f s, f ∈ found ∧ s.Sublist r ∧ g = f ++ s ∧ (s = [] ∨ (g.length : Int) ≤ most)
  | [], found, g => by
    simp only [List.foldl_nil]
    constructor
    · intro h; exact ⟨g, [], h, List.Sublist.refl _, by simp, .inl rfl⟩
    · rintro ⟨f, s, hf, hs, rfl, _⟩
      rw [List.sublist_nil.mp hs, List.append_nil]; exact hf
  | p :: r, found, g => by
    rw [List.foldl_cons, mem_groupsF most r]
    constructor
    · rintro ⟨f, s, hf, hs, rfl, hl⟩
      rcases List.mem_append.mp hf with h | h
      · exact ⟨f, s, h, hs.cons p, rfl, hl⟩
      · obtain ⟨a, ha, rfl⟩ := List.mem_map.mp h
        obtain ⟨a1, a2⟩ := List.mem_filter.mp ha
        have a2 := of_decide_eq_true a2
        refine ⟨a, p :: s, a1, hs.cons_cons p, by simp, .inr ?_⟩
        rcases hl with h | h
        · subst h; simp; omega
        · exact h
    · rintro ⟨f, s, hf, hs, rfl, hl⟩
      cases hs with
      | cons _ hs' => exact ⟨f, s, List.mem_append_left _ hf, hs', rfl, hl⟩
      | cons_cons _ hs' =>
        rename_i s'
        have hl : ((f ++ p :: s').length : Int) ≤ most := by
          rcases hl with h | h
          · cases h
          · exact h
        refine ⟨f ++ [p], s', List.mem_append_right _ (List.mem_map.mpr ⟨f, List.mem_filter.mpr ⟨hf, decide_eq_true ?_⟩, rfl⟩), hs', by simp, .inr hl⟩
        rw [List.length_append, List.length_cons] at hl; omega
theorem mem_groupsW {most : Int} (h1 : 1 ≤ most) {p : Int} {r g : List Int} : g ∈ groupsW most (p :: r) ↔ ∃ s, s.Sublist r ∧ g = p :: s ∧ (g.length : Int) ≤ most := by
  show g ∈ r.foldl _ [[p]] ↔ _
  rw [mem_groupsF]
  constructor
  · rintro ⟨f, s, hf, hs, rfl, hl⟩
    rw [List.mem_singleton] at hf
    subst hf
    refine ⟨s, hs, rfl, ?_⟩
    rcases hl with h | h
    · subst h; simpa using h1
    · exact h
  · rintro ⟨s, hs, rfl, hl⟩
    exact ⟨[p], s, by simp, hs, rfl, .inr hl⟩
theorem groupsW_ne {most : Int} (h1 : 1 ≤ most) {p : Int} {r : List Int} : groupsW most (p :: r) ≠ [] := by
  have : [p] ∈ groupsW most (p :: r) := (mem_groupsW h1).mpr ⟨[], List.nil_sublist _, rfl, by simpa using h1⟩
  intro e; rw [e] at this; cases this
/-- the people that are not in a group -/
def restOf (people g : List Int) : List Int := people.filter fun p => decide (p ∉ g)
theorem restOf_less {most : Int} (h1 : 1 ≤ most) {p : Int} {r g : List Int} (hg : g ∈ groupsW most (p :: r)) : (restOf (p :: r) g).length ≤ r.length := by
  obtain ⟨s, hs, rfl, _⟩ := (mem_groupsW h1).mp hg
  unfold restOf
  rw [List.filter_cons_of_neg (by simp)]
  exact List.length_filter_le _ _
/-- all ways to put people into groups -/
def PartOf (most : Int) : List Int → List (List Int) → Prop
  | people, [] => people = []
  | people, g :: gs => people ≠ [] ∧ g ∈ groupsW most people ∧ PartOf most (restOf people g) gs
def costG (c : List Int → Int) (gs : List (List Int)) : Int := (gs.map c).sum
/-- the best way -/
structure IsBest (c : List Int → Int) (most : Int) (people : List Int) (r : GRow) : Prop where
  part : PartOf most people r.2
  cost : r.1 = costG c r.2
  least : ∀ gs, PartOf most people gs → ltR (costG c gs, gs) r = false
theorem IsBest.uniq {c : List Int → Int} {most : Int} {people : List Int} {r s : GRow} (h : IsBest c most people r) (k : IsBest c most people s) : r = s := by
  have a := h.least _ k.part
  have b := k.least _ h.part
  rw [← k.cost] at a
  rw [← h.cost] at b
  exact ltR_ord.tot _ _ b a
theorem best_nil (c : List Int → Int) (most : Int) : IsBest c most [] (0, []) := ⟨rfl, rfl, fun gs h => by
  cases gs with
  | nil => exact ltR_ord.irr _
  | cons g gs => exact absurd rfl h.1⟩
theorem best_cons {c : List Int → Int} {most : Int} {people : List Int} (hne : people ≠ []) {b : List Int → GRow} (hb : ∀ g ∈ groupsW most people, IsBest c most (restOf people g) (b g)) {m : GRow}
    (hm : m ∈ (groupsW most people).map fun g => ((b g).1 + c g, g :: (b g).2)) (hx : ∀ y ∈ (groupsW most people).map fun g => ((b g).1 + c g, g :: (b g).2), ltR y m = false) : IsBest c most people m := by
  obtain ⟨g, hg, rfl⟩ := List.mem_map.mp hm
  have h := hb g hg
  refine ⟨⟨hne, hg, h.part⟩, ?_, fun gs hp => ?_⟩
  · show (b g).1 + c g = costG c (g :: (b g).2)
    rw [h.cost]; simp [costG]; omega
  · cases gs with
    | nil => exact absurd hp hne
    | cons g' gs' =>
      obtain ⟨_, hg', hp'⟩ := hp
      have k := hb g' hg'
      have a := hx _ (List.mem_map_of_mem hg')
      have l := k.least gs' hp'
      have e : costG c (g' :: gs') = costG c gs' + c g' := by simp [costG]; omega
      rw [e]
      cases z : ltR (costG c gs' + c g', g' :: gs') ((b g).1 + c g, g :: (b g).2) with
      | false => rfl
      | true =>
        have pre := ltR_pre (a := (costG c gs', gs')) (b := b g') (c := c g') (g := g')
        dsimp only at pre
        rw [l] at pre
        -- row' ≥ rowb' ≥ m > row'
        cases w : ltR ((b g').1 + c g', g' :: (b g').2) (costG c gs' + c g', g' :: gs') with
        | true =>
          have := ltR_ord.tr _ _ _ w z
          rw [a] at this; cases this
        | false =>
          have := ltR_ord.tot _ _ w pre
          rw [this] at a
          rw [a] at z; cases z
theorem best_ex (c : List Int → Int) {most : Int} (h1 : 1 ≤ most) : ∀ (k : Nat) (people : List Int), people.length ≤ k → ∃ r, IsBest c most people r
  | k, [], _ => ⟨_, best_nil c most⟩
  | 0, p :: r, h => by simp at h
  | k + 1, p :: r, h => by
    have ih : ∀ g ∈ groupsW most (p :: r), ∃ b, IsBest c most (restOf (p :: r) g) b := fun g hg => best_ex c h1 k _ (by
      have := restOf_less h1 hg
      rw [List.length_cons] at h; omega)
    let b : List Int → GRow := fun g => if hg : g ∈ groupsW most (p :: r) then (ih g hg).choose else (0, [])
    have hb : ∀ g ∈ groupsW most (p :: r), IsBest c most (restOf (p :: r) g) (b g) := fun g hg => by
      show IsBest _ _ _ (if hg : g ∈ groupsW most (p :: r) then (ih g hg).choose else (0, []))
      rw [dif_pos hg]; exact (ih g hg).choose_spec
    obtain ⟨m, hm, hx⟩ := least_row (l := (groupsW most (p :: r)).map fun g => ((b g).1 + c g, g :: (b g).2)) (by simpa using groupsW_ne h1)
    exact ⟨m, best_cons (by simp) hb hm hx⟩
/-- the cost of a group of people with wishes -/
def gcost (ps : List Pack) (ws : List Int) (g : List Int) : Int := pr ps ((g.map fun i => ws.getD i.toNat 0).sum).toNat
noncomputable def bestR (ps : List Pack) (ws : List Int) (most : Int) (people : List Int) : GRow := Classical.epsilon (IsBest (gcost ps ws) most people)
theorem bestR_spec {most : Int} (h1 : 1 ≤ most) (ps : List Pack) (ws : List Int) (people : List Int) : IsBest (gcost ps ws) most people (bestR ps ws most people) := Classical.epsilon_spec (best_ex (gcost ps ws) h1 people.length people (Nat.le_refl _))
theorem bestR_eq {most : Int} (h1 : 1 ≤ most) {ps : List Pack} {ws : List Int} {people : List Int} {r : GRow} (h : IsBest (gcost ps ws) most people r) : bestR ps ws most people = r := (bestR_spec h1 ps ws people).uniq h
/-- the people 0, 1, .. -/
def allP (n : Nat) : List Int := (List.range n).map fun i : Nat => (i : Int)
/-- all subsets -/
def subsI : List Int → List (List Int)
  | [] => [[]]
  | x :: r => subsI r ++ (subsI r).map (x :: ·)
theorem subsI_len : ∀ l : List Int, (subsI l).length = 2 ^ l.length
  | [] => rfl
  | x :: r => by rw [subsI, List.length_append, List.length_map, subsI_len r, List.length_cons, Nat.pow_succ]; omega
theorem mem_subsI : ∀ {l s : List Int}, s ∈ subsI l ↔ s.Sublist l
  | [], s => by simp [subsI]
  | x :: r, s => by
    rw [subsI, List.mem_append]
    constructor
    · rintro (h | h)
      · exact (mem_subsI.mp h).cons x
      · obtain ⟨t, ht, rfl⟩ := List.mem_map.mp h
        exact (mem_subsI.mp ht).cons_cons x
    · intro h
      cases h with
      | cons _ h' => exact .inl (mem_subsI.mpr h')
      | cons_cons _ h' => exact .inr (List.mem_map.mpr ⟨_, mem_subsI.mpr h', rfl⟩)
end PK

/-! Plain Lean: all ways to put people into groups, listed; the best of them reckoned. -/
namespace PK
def partsF (most : Int) : Nat → List Int → List (List (List Int))
  | _, [] => [[]]
  | 0, _ :: _ => []
  | n + 1, p :: r => (groupsW most (p :: r)).flatMap fun g => (partsF most n (restOf (p :: r) g)).map (g :: ·)
theorem mem_parts {most : Int} (h1 : 1 ≤ most) : ∀ (n : Nat) (us : List Int), us.length ≤ n → ∀ gs, gs ∈ partsF most n us ↔ PartOf most us gs
  | n, [], _, gs => by
    have e : partsF most n [] = [[]] := by cases n <;> rfl
    rw [e, List.mem_singleton]
    constructor
    · intro h; subst h; rfl
    · intro h
      cases gs with
      | nil => rfl
      | cons g gs => exact absurd rfl h.1
  | 0, p :: r, h, gs => by simp at h
  | n + 1, p :: r, h, gs => by
    show gs ∈ (groupsW most (p :: r)).flatMap _ ↔ _
    rw [List.mem_flatMap]
    constructor
    · rintro ⟨g, hg, hm⟩
      obtain ⟨gs', hgs, rfl⟩ := List.mem_map.mp hm
      have hl := restOf_less h1 hg
      rw [List.length_cons] at h
      exact ⟨by simp, hg, (mem_parts h1 n _ (by omega) _).mp hgs⟩
    · intro hp
      cases gs with
      | nil => exact absurd hp (by simp [PartOf])
      | cons g gs' =>
        obtain ⟨_, hg, hp'⟩ := hp
        have hl := restOf_less h1 hg
        rw [List.length_cons] at h
        exact ⟨g, hg, List.mem_map.mpr ⟨gs', (mem_parts h1 n _ (by omega) _).mpr hp', rfl⟩⟩
def leastR : List GRow → GRow
  | [] => (0, [])
  | [a] => a
  | a :: b :: r => if ltR a (leastR (b :: r)) = true then a else leastR (b :: r)
theorem leastR_spec : ∀ {l : List GRow}, l ≠ [] → leastR l ∈ l ∧ ∀ y ∈ l, ltR y (leastR l) = false
  | [], h => absurd rfl h
  | [a], _ => ⟨by simp [leastR], fun y hy => by rw [List.mem_singleton.mp hy]; exact ltR_ord.irr a⟩
  | a :: b :: r, _ => by
    obtain ⟨hm, hx⟩ := leastR_spec (l := b :: r) (by simp)
    rw [show leastR (a :: b :: r) = if ltR a (leastR (b :: r)) = true then a else leastR (b :: r) from rfl]
    by_cases c : ltR a (leastR (b :: r)) = true
    · rw [if_pos c]
      refine ⟨by simp, fun y hy => ?_⟩
      rcases List.mem_cons.mp hy with e | e
      · subst e; exact ltR_ord.irr _
      · cases c2 : ltR y a with
        | false => rfl
        | true =>
          have := hx y e
          rw [ltR_ord.tr _ _ _ c2 c] at this; cases this
    · rw [if_neg c]
      refine ⟨List.mem_cons_of_mem _ hm, fun y hy => ?_⟩
      rcases List.mem_cons.mp hy with e | e
      · subst e; exact Bool.eq_false_iff.mpr c
      · exact hx y e
def rowsOf (c : List Int → Int) (most : Int) (us : List Int) : List GRow := (partsF most us.length us).map fun gs => (costG c gs, gs)
/-- the least of all rows is the best -/
theorem best_rows {c : List Int → Int} {most : Int} (h1 : 1 ≤ most) {us : List Int} {m : GRow} (hm : m ∈ rowsOf c most us) (hx : ∀ y ∈ rowsOf c most us, ltR y m = false) : IsBest c most us m := by
  obtain ⟨gs, hg, rfl⟩ := List.mem_map.mp hm
  exact ⟨(mem_parts h1 _ us (Nat.le_refl _) gs).mp hg, rfl, fun hs hp => hx _ (List.mem_map.mpr ⟨hs, (mem_parts h1 _ us (Nat.le_refl _) hs).mpr hp, rfl⟩)⟩
theorem rows_ne {c : List Int → Int} {most : Int} (h1 : 1 ≤ most) (us : List Int) : rowsOf c most us ≠ [] := by
  obtain ⟨r, h⟩ := best_ex c h1 us.length us (Nat.le_refl _)
  have := (mem_parts h1 _ us (Nat.le_refl _) _).mpr h.part
  intro e
  have := List.mem_map_of_mem (f := fun gs => ((costG c gs, gs) : GRow)) this
  have e2 : (partsF most us.length us).map (fun gs => ((costG c gs, gs) : GRow)) = [] := e
  rw [e2] at this; cases this
theorem bestR_C {most : Int} (h1 : 1 ≤ most) (ps : List Pack) (ws us : List Int) : bestR ps ws most us = leastR (rowsOf (gcost ps ws) most us) := by
  obtain ⟨a, b⟩ := leastR_spec (rows_ne (c := gcost ps ws) h1 us)
  exact bestR_eq h1 (best_rows h1 a b)
/-- the same rows, in any order -/
theorem bestR_same {most : Int} (h1 : 1 ≤ most) {ps : List Pack} {ws us : List Int} {L : List GRow} (hL : ∀ r, r ∈ L ↔ r ∈ rowsOf (gcost ps ws) most us) {m : GRow} (hm : m ∈ L) (hx : ∀ y ∈ L, ltR y m = false) : bestR ps ws most us = m :=
  bestR_eq h1 (best_rows h1 ((hL m).mp hm) fun y hy => hx y ((hL y).mpr hy))
theorem gcost_1 (ps : List Pack) (ws : List Int) (i : Int) : gcost ps ws [i] = pr ps (ws.getD i.toNat 0).toNat := by simp [gcost]
theorem gcost_2 (ps : List Pack) (ws : List Int) (i j : Int) : gcost ps ws [i, j] = pr ps (ws.getD i.toNat 0 + ws.getD j.toNat 0).toNat := by simp [gcost]
theorem gcost_3 (ps : List Pack) (ws : List Int) (i j k : Int) : gcost ps ws [i, j, k] = pr ps (ws.getD i.toNat 0 + (ws.getD j.toNat 0 + ws.getD k.toNat 0)).toNat := by simp [gcost]
theorem parts1 : partsF 8 1 [0] = [[[0]]] ∧ partsF 1 1 [0] = [[[0]]] := by decide
theorem parts2 : partsF 2 2 [0, 1] = [[[0], [1]], [[0, 1]]] := by decide
theorem parts3 : partsF 1 3 [0, 1, 2] = [[[0], [1], [2]]] ∧ partsF 2 3 [0, 1, 2] = [[[0], [1], [2]], [[0], [1, 2]], [[0, 1], [2]], [[0, 2], [1]]] ∧ partsF 3 3 [0, 1, 2] = [[[0], [1], [2]], [[0], [1, 2]], [[0, 1], [2]], [[0, 2], [1]], [[0, 1, 2]]] ∧
    partsF 8 3 [0, 1, 2] = [[[0], [1], [2]], [[0], [1, 2]], [[0, 1], [2]], [[0, 2], [1]], [[0, 1, 2]]] := by decide
theorem two_best {ps : List Pack} {a b : Int} : bestR ps [a, b] 2 [0, 1] = if pr ps (a + b).toNat < pr ps a.toNat + pr ps b.toNat then (pr ps (a + b).toNat, [[0, 1]]) else (pr ps a.toNat + pr ps b.toNat, [[0], [1]]) := by
  have e : rowsOf (gcost ps [a, b]) 2 [0, 1] = [(pr ps a.toNat + pr ps b.toNat, [[0], [1]]), (pr ps (a + b).toNat, [[0, 1]])] := by
    show (partsF 2 2 [0, 1]).map _ = _
    rw [parts2]
    simp [costG, gcost_1, gcost_2]
  rw [bestR_C (by decide), e]
  show (if ltR _ _ = true then _ else _) = _
  by_cases c : pr ps (a + b).toNat < pr ps a.toNat + pr ps b.toNat
  · rw [if_pos c, if_neg]
    · rfl
    · show ¬ ltR (pr ps a.toNat + pr ps b.toNat, [[0], [1]]) (pr ps (a + b).toNat, [[0, 1]]) = true
      simp only [ltR]
      rw [if_neg (by omega)]
      simp; omega
  · rw [if_neg c, if_pos]
    show ltR (pr ps a.toNat + pr ps b.toNat, [[0], [1]]) (pr ps (a + b).toNat, [[0, 1]]) = true
    simp only [ltR]
    by_cases e : pr ps a.toNat + pr ps b.toNat = pr ps (a + b).toNat
    · rw [if_pos e]; decide
    · rw [if_neg e]; simp; omega
theorem one_best {ps : List Pack} {a : Int} : bestR ps [a] 8 [0] = (pr ps a.toNat, [[0]]) ∧ bestR ps [a] 1 [0] = (pr ps a.toNat, [[0]]) := by
  constructor
  · rw [bestR_C (by decide)]
    show leastR ((partsF 8 1 [0]).map _) = _
    rw [parts1.1]; simp [leastR, costG, gcost_1]
  · rw [bestR_C (by decide)]
    show leastR ((partsF 1 1 [0]).map _) = _
    rw [parts1.2]; simp [leastR, costG, gcost_1]
end PK

/-! Plain Lean: partitions: sums, one group, single people, scaled prices; far wishes. -/
namespace PK
section
variable {ps qs : List Pack}
theorem part_mono {m m' : Int} (h1 : 1 ≤ m) (h : m ≤ m') : ∀ (gs : List (List Int)) (us : List Int), PartOf m us gs → PartOf m' us gs
  | [], us, p => p
  | g :: gs, us, p => by
    obtain ⟨a, b, c⟩ := p
    refine ⟨a, ?_, part_mono h1 h gs _ c⟩
    cases us with
    | nil => exact absurd rfl a
    | cons q r =>
      obtain ⟨s, s1, s2, s3⟩ := (mem_groupsW h1).mp b
      exact (mem_groupsW (by omega)).mpr ⟨s, s1, s2, by omega⟩
theorem groupsW_sub {m : Int} (h1 : 1 ≤ m) {us g : List Int} (hg : g ∈ groupsW m us) : g.Sublist us ∧ g ≠ [] ∧ (g.length : Int) ≤ m := by
  cases us with
  | nil => cases hg
  | cons q r =>
    obtain ⟨s, s1, s2, s3⟩ := (mem_groupsW h1).mp hg
    subst s2
    exact ⟨s1.cons_cons q, by simp, s3⟩
theorem sum_split (w : Int → Int) : ∀ {g us : List Int}, g.Sublist us → us.Nodup → (g.map w).sum + ((restOf us g).map w).sum = (us.map w).sum := by
  intro g us h
  induction h with
  | slnil => intro _; simp [restOf]
  | @cons l₁ l₂ a h ih =>
    intro nd
    have nd' := List.nodup_cons.mp nd
    have na : a ∉ l₁ := fun hm => nd'.1 (h.subset hm)
    have := ih nd'.2
    unfold restOf at this ⊢
    rw [List.filter_cons_of_pos (by simpa using na), List.map_cons, List.map_cons, List.sum_cons, List.sum_cons]; omega
  | @cons_cons l₁ l₂ a h ih =>
    intro nd
    have nd' := List.nodup_cons.mp nd
    have := ih nd'.2
    unfold restOf at this ⊢
    rw [List.filter_cons_of_neg (by simp), List.map_cons, List.map_cons, List.sum_cons, List.sum_cons]
    have e : l₂.filter (fun p => decide (p ∉ a :: l₁)) = l₂.filter fun p => decide (p ∉ l₁) := by
      apply List.filter_congr
      intro x hx
      have : x ≠ a := fun e => by subst e; exact nd'.1 hx
      simp [this]
    rw [e]; omega
theorem restOf_nodup {us : List Int} (h : us.Nodup) (g : List Int) : (restOf us g).Nodup := h.sublist List.filter_sublist
/-- what the people of all groups want is what all people want -/
theorem part_sum (w : Int → Int) {m : Int} (h1 : 1 ≤ m) : ∀ (gs : List (List Int)) (us : List Int), us.Nodup → PartOf m us gs → (gs.map fun g => (g.map w).sum).sum = (us.map w).sum
  | [], us, _, p => by have e : us = [] := p
                       subst e; rfl
  | g :: gs, us, nd, p => by
    obtain ⟨a, b, c⟩ := p
    have s := sum_split w (groupsW_sub h1 b).1 nd
    rw [List.map_cons, List.sum_cons, part_sum w h1 gs _ (restOf_nodup nd g) c]; exact s
theorem part_mem {m : Int} (h1 : 1 ≤ m) : ∀ (gs : List (List Int)) (us : List Int), PartOf m us gs → ∀ g ∈ gs, g.Sublist us ∧ g ≠ [] ∧ (g.length : Int) ≤ m
  | [], us, _, g, hg => by cases hg
  | a :: gs, us, p, g, hg => by
    obtain ⟨p1, p2, p3⟩ := p
    rcases List.mem_cons.mp hg with e | e
    · subst e; exact groupsW_sub h1 p2
    · obtain ⟨x, y, z⟩ := part_mem h1 gs _ p3 g e
      exact ⟨x.trans List.filter_sublist, y, z⟩
/-- the sums of groups -/
def gsum (ws : List Int) (g : List Int) : Int := (g.map fun i => ws.getD i.toNat 0).sum
theorem gcost_eq (ps : List Pack) (ws g : List Int) : gcost ps ws g = pr ps (gsum ws g).toNat := rfl
theorem getD_nn' {ws : List Int} (h : ∀ w ∈ ws, 0 ≤ w) (i : Nat) : 0 ≤ ws.getD i 0 := by
  rw [List.getD_eq_getElem?_getD]
  cases e : ws[i]? with
  | none => exact Int.le_refl _
  | some w => exact h w (List.mem_of_getElem? e)
theorem gsum_nn' {ws : List Int} (h : ∀ w ∈ ws, 0 ≤ w) (g : List Int) : 0 ≤ gsum ws g := sum_nn fun w hw => by
  obtain ⟨i, _, rfl⟩ := List.mem_map.mp hw
  exact getD_nn' h _
/-- groups never pay less than one order of all -/
theorem cost_ge (h : Pks ps) {ws : List Int} (hw : ∀ w ∈ ws, 0 ≤ w) : ∀ gs : List (List Int), pr ps ((gs.map (gsum ws)).sum).toNat ≤ costG (gcost ps ws) gs
  | [] => by simp [costG, pr_zero]
  | g :: gs => by
    have ih := cost_ge h hw gs
    have g0 := gsum_nn' hw g
    have s0 : 0 ≤ (gs.map (gsum ws)).sum := sum_nn fun w hx => by obtain ⟨a, _, rfl⟩ := List.mem_map.mp hx; exact gsum_nn' hw a
    have a := pr_add h (gsum ws g).toNat ((gs.map (gsum ws)).sum).toNat
    rw [show (gsum ws g).toNat + ((gs.map (gsum ws)).sum).toNat = (((g :: gs).map (gsum ws)).sum).toNat by rw [List.map_cons, List.sum_cons]; omega] at a
    show _ ≤ (gcost ps ws g :: gs.map (gcost ps ws)).sum
    rw [List.sum_cons, gcost_eq]
    show _ ≤ _ + costG (gcost ps ws) gs
    omega
theorem allP_nodup (n : Nat) : (allP n).Nodup := by
  unfold allP
  exact List.pairwise_map.mpr (List.Pairwise.imp (fun {a b} h e => h (by omega)) List.nodup_range)
theorem allP_sum (ws : List Int) : gsum ws (allP ws.length) = ws.sum := by
  unfold gsum allP
  rw [List.map_map]
  have : (List.range ws.length).map ((fun i : Int => ws.getD i.toNat 0) ∘ fun i : Nat => (i : Int)) = ws := by
    apply List.ext_getElem?
    intro i
    rw [List.getElem?_map]
    by_cases c : i < ws.length
    · rw [List.getElem?_range c, Option.map_some]
      show some (ws.getD ((i : Int).toNat) 0) = _
      rw [Int.toNat_natCast, List.getD_eq_getElem?_getD, List.getElem?_eq_getElem c]; rfl
    · rw [List.getElem?_eq_none (by rw [List.length_range]; omega), List.getElem?_eq_none (by omega)]; rfl
  rw [this]
theorem allP_map (ws : List Int) (f : Int → Int) : (allP ws.length).map (fun i => f (ws.getD i.toNat 0)) = ws.map f := by
  unfold allP
  rw [List.map_map]
  apply List.ext_getElem?
  intro i
  rw [List.getElem?_map, List.getElem?_map]
  by_cases c : i < ws.length
  · rw [List.getElem?_range c, List.getElem?_eq_getElem c, Option.map_some, Option.map_some]
    show some (f (ws.getD ((i : Int).toNat) 0)) = _
    rw [Int.toNat_natCast, List.getD_eq_getElem?_getD, List.getElem?_eq_getElem c]; rfl
  · rw [List.getElem?_eq_none (by rw [List.length_range]; omega), List.getElem?_eq_none (by omega)]; rfl
/-- the smallest sum -/
noncomputable def inG (ps : List Pack) (ws : List Int) (m : Int) : Int := (bestR ps ws m (allP ws.length)).1
theorem inG_le {m : Int} (h1 : 1 ≤ m) (ps : List Pack) (ws : List Int) {gs : List (List Int)} (h : PartOf m (allP ws.length) gs) : inG ps ws m ≤ costG (gcost ps ws) gs := by
  have := (bestR_spec h1 ps ws (allP ws.length)).least gs h
  unfold inG
  simp only [ltR] at this
  split at this
  · omega
  · have := of_decide_eq_false this; omega
theorem inG_ex {m : Int} (h1 : 1 ≤ m) (ps : List Pack) (ws : List Int) : ∃ gs, PartOf m (allP ws.length) gs ∧ inG ps ws m = costG (gcost ps ws) gs ∧ gs = (bestR ps ws m (allP ws.length)).2 :=
  ⟨_, (bestR_spec h1 ps ws (allP ws.length)).part, (bestR_spec h1 ps ws (allP ws.length)).cost, rfl⟩
theorem inG_sum (h : Pks ps) {ws : List Int} (hw : ∀ w ∈ ws, 0 ≤ w) {m : Int} (h1 : 1 ≤ m) : pr ps ws.sum.toNat ≤ inG ps ws m := by
  obtain ⟨gs, a, b, _⟩ := inG_ex h1 ps ws
  rw [b]
  have := cost_ge h hw gs
  have e : (gs.map (gsum ws)).sum = ws.sum := (part_sum (fun i => ws.getD i.toNat 0) h1 gs _ (allP_nodup _) a).trans (allP_sum ws)
  rw [e] at this; exact this
theorem inG_mono {m m' : Int} (h1 : 1 ≤ m) (h : m ≤ m') (ps : List Pack) (ws : List Int) : inG ps ws m' ≤ inG ps ws m := by
  obtain ⟨gs, a, b, _⟩ := inG_ex h1 ps ws
  rw [b]
  exact inG_le (by omega) ps ws (part_mono h1 h gs _ a)
theorem part_one {m : Int} {us : List Int} (hne : us ≠ []) (h : (us.length : Int) ≤ m) : PartOf m us [us] := by
  cases us with
  | nil => exact absurd rfl hne
  | cons p r =>
    refine ⟨hne, (mem_groupsW (by rw [List.length_cons] at h; omega)).mpr ⟨r, List.Sublist.refl _, rfl, h⟩, ?_⟩
    show restOf (p :: r) (p :: r) = []
    unfold restOf
    rw [List.filter_eq_nil_iff]
    intro x hx
    simp only [decide_not, Bool.not_eq_true, Bool.not_eq_false', decide_eq_true_eq]
    exact hx
theorem inG_all (h : Pks ps) {ws : List Int} (hw : ∀ w ∈ ws, 0 ≤ w) (hne : ws ≠ []) {m : Int} (hm : (ws.length : Int) ≤ m) : inG ps ws m = pr ps ws.sum.toNat := by
  have l1 := List.length_pos_iff.mpr hne
  have la : (allP ws.length).length = ws.length := by unfold allP; rw [List.length_map, List.length_range]
  have a := inG_le (m := m) (by omega) ps ws (part_one (us := allP ws.length) (fun e => by rw [e] at la; simp at la; omega) (by rw [la]; exact hm))
  have b := inG_sum h hw (m := m) (by omega)
  have e : costG (gcost ps ws) [allP ws.length] = pr ps ws.sum.toNat := by
    show (gcost ps ws (allP ws.length)) + 0 = _
    rw [gcost_eq, allP_sum, Int.add_zero]
  rw [e] at a; omega
theorem groups_one (p : Int) : ∀ (r : List Int), groupsW 1 (p :: r) = [[p]] := fun r => by
  have : ∀ r : List Int, r.foldl (fun found person => found ++ (found.filter fun g => decide ((g.length : Int) < 1)).map (· ++ [person])) [[p]] = [[p]] := fun r => by
    induction r with
    | nil => rfl
    | cons a r ih => rw [List.foldl_cons]; simpa using ih
  exact this r
theorem part_alone : ∀ (gs : List (List Int)) (us : List Int), us.Nodup → PartOf 1 us gs → gs = us.map ([·])
  | [], us, _, p => by have e : us = [] := p
                       subst e; rfl
  | g :: gs, us, nd, p => by
    obtain ⟨a, b, c⟩ := p
    cases us with
    | nil => exact absurd rfl a
    | cons q r =>
      rw [groups_one, List.mem_singleton] at b
      subst b
      have nd' := List.nodup_cons.mp nd
      have e : restOf (q :: r) [q] = r := by
        unfold restOf
        rw [List.filter_cons_of_neg (by simp), List.filter_eq_self]
        intro x hx
        have : x ≠ q := fun e => by subst e; exact nd'.1 hx
        simp [this]
      rw [e] at c
      rw [List.map_cons, part_alone gs r nd'.2 c]
theorem inG_alone (ps : List Pack) (ws : List Int) : inG ps ws 1 = (ws.map fun w => pr ps w.toNat).sum := by
  obtain ⟨gs, a, b, _⟩ := inG_ex (Int.le_refl 1) ps ws
  rw [b, part_alone gs _ (allP_nodup _) a]
  unfold costG
  rw [List.map_map]
  have e : (gcost ps ws ∘ fun x => [x]) = fun i : Int => pr ps (ws.getD i.toNat 0).toNat := by funext i; exact gcost_1 ps ws i
  rw [e, allP_map ws fun w => pr ps w.toNat]
/-! ### other prices -/
theorem inG_cheap {ws : List Int} (le : ∀ n, pr ps n ≤ pr qs n) {m : Int} (h1 : 1 ≤ m) : inG ps ws m ≤ inG qs ws m := by
  obtain ⟨gs, a, b, _⟩ := inG_ex h1 qs ws
  have c := inG_le h1 ps ws a
  have d : ∀ l : List (List Int), costG (gcost ps ws) l ≤ costG (gcost qs ws) l := fun l => by
    induction l with
    | nil => exact Int.le_refl _
    | cons g r ih =>
      have := le (gsum ws g).toNat
      show (gcost ps ws g :: r.map (gcost ps ws)).sum ≤ (gcost qs ws g :: r.map (gcost qs ws)).sum
      rw [List.sum_cons, List.sum_cons, gcost_eq, gcost_eq]
      exact Int.add_le_add this ih
  have := d gs
  omega
/-! ### far wishes -/
theorem steady_le (ok : OkShop ps) {r : Nat} (s : SteadyAt ps r) : r ≤ 901 := by
  rcases Nat.lt_or_ge 901 r with c | c
  · have t := ok.top
    obtain ⟨b1, b2, _, _⟩ := ok.ok _ (bestOf_mem ok.ne)
    obtain ⟨l1, l2, _, _⟩ := ok.ok _ (lastOf_mem ok.ne)
    have tb : topOf ps ≤ 900 := by
      rw [t]
      have := Nat.mul_le_mul (show (bestOf ps).1.toNat ≤ 30 by omega) (show (lastOf ps).1.toNat ≤ 30 by omega)
      omega
    have := s.2 (by omega)
    have p := ok.period (n := r - 1 + (bestOf ps).1.toNat) (by omega)
    rw [Nat.add_sub_cancel] at p
    omega
  · exact c
theorem far_pr {r : Nat} (s : SteadyAt ps r) : ∀ (t n : Nat), r ≤ n → pr ps (n + t * (bestOf ps).1.toNat) = pr ps n + (t : Int) * (bestOf ps).2
  | 0, n, h => by simp
  | t + 1, n, h => by
    have a := far_pr s t n h
    have b := s.1 (n + t * (bestOf ps).1.toNat) (by omega)
    rw [show n + (t + 1) * (bestOf ps).1.toNat = n + t * (bestOf ps).1.toNat + (bestOf ps).1.toNat by rw [Nat.add_mul]; omega, b, a, show ((t + 1 : Nat) : Int) = t + 1 by omega, Int.add_mul]; omega
theorem far_got (h : Pks ps) {r : Nat} (s : SteadyAt ps r) {n : Nat} (hn : r ≤ n) (h1 : 1 ≤ n) (t : Nat) : got ps ((n + t * (bestOf ps).1.toNat : Nat) : Int) = got ps n + ((t * (bestOf ps).1.toNat : Nat) : Int) := by
  have g := got_spec h (show (0 : Int) < (n : Int) by omega)
  rw [Int.toNat_natCast] at g
  have f1 := far_pr s t n hn
  have f2 := far_pr s t (got ps n).toNat (by omega)
  have f3 := far_pr s t ((got ps n).toNat + 1) (by omega)
  have m : MostFor ps (pr ps (n + t * (bestOf ps).1.toNat)) ((got ps n).toNat + t * (bestOf ps).1.toNat) := by
    refine ⟨by rw [f1, f2]; have := g.1.1; omega, ?_⟩
    rw [show (got ps n).toNat + t * (bestOf ps).1.toNat + 1 = (got ps n).toNat + 1 + t * (bestOf ps).1.toNat by omega, f3, f1]
    have := g.1.2; omega
  have e : got ps ((n + t * (bestOf ps).1.toNat : Nat) : Int) = (((got ps n).toNat + t * (bestOf ps).1.toNat : Nat) : Int) := by
    conv => lhs; unfold got
    rw [if_pos (by omega), Int.toNat_natCast, mf_eq h m]
  rw [e]; omega
theorem step_up (h : Pks ps) (s : Int × Int) {w w' : Int} (hw : w ≤ w') : (stepW ps s w).1 ≤ (stepW ps s w').1 := by
  unfold stepW
  dsimp only
  have := pr_mono h (show (if w - s.2 > 0 then w - s.2 else 0).toNat ≤ (if w' - s.2 > 0 then w' - s.2 else 0).toNat by split <;> split <;> omega)
  omega
theorem two_alone (ps : List Pack) (a b : Int) : inG ps [a, b] 1 = pr ps a.toNat + pr ps b.toNat := by rw [inG_alone]; simp
theorem two_pair (ps : List Pack) (a b : Int) : inG ps [a, b] 2 = if pr ps (a + b).toNat < pr ps a.toNat + pr ps b.toNat then pr ps (a + b).toNat else pr ps a.toNat + pr ps b.toNat := by
  unfold inG
  have e : allP ([a, b] : List Int).length = [0, 1] := rfl
  rw [e, two_best]
  split <;> rfl
end
end PK

/-! Plain Lean: a wish one greater; prices multiplied. -/
namespace PK
section
variable {ps qs : List Pack}
/-- the wish of one person one greater -/
def upAt (ws : List Int) (at_ : Nat) : List Int := ws.take at_ ++ [ws.getD at_ 0 + 1] ++ ws.drop (at_ + 1)
theorem upAt_len {ws : List Int} {at_ : Nat} (h : at_ < ws.length) : (upAt ws at_).length = ws.length := by
  unfold upAt
  rw [List.length_append, List.length_append, List.length_take, List.length_drop]; simp; omega
theorem upAt_get {ws : List Int} {at_ : Nat} (h : at_ < ws.length) (i : Nat) : (upAt ws at_).getD i 0 = ws.getD i 0 + (if i = at_ then 1 else 0) := by
  have e : upAt ws at_ = ws.set at_ (ws.getD at_ 0 + 1) := by
    unfold upAt
    rw [List.set_eq_take_append_cons_drop, if_pos h]
    simp
  rw [e, List.getD_eq_getElem?_getD, List.getElem?_set]
  by_cases c : at_ = i
  · subst c
    rw [if_pos rfl, if_pos h, if_pos rfl]; rfl
  · rw [if_neg c, if_neg (fun z => c z.symm), List.getD_eq_getElem?_getD, Int.add_zero]
/-- one where the person is -/
def dlt (at_ : Nat) (i : Int) : Int := if i.toNat = at_ then 1 else 0
theorem gsum_up {ws : List Int} {at_ : Nat} (h : at_ < ws.length) : ∀ g : List Int, gsum (upAt ws at_) g = gsum ws g + (g.map (dlt at_)).sum
  | [] => rfl
  | i :: r => by
    have ih := gsum_up h r
    unfold gsum at ih ⊢
    rw [List.map_cons, List.map_cons, List.map_cons, List.sum_cons, List.sum_cons, List.sum_cons, ih, upAt_get h]
    show _ = _ + (dlt at_ i + _)
    unfold dlt
    omega
theorem dlt_sum (at_ n : Nat) (h : at_ < n) : ((allP n).map (dlt at_)).sum = 1 := by
  unfold allP
  rw [List.map_map]
  have : ∀ m : Nat, ((List.range m).map (dlt at_ ∘ fun i : Nat => (i : Int))).sum = if at_ < m then 1 else 0 := fun m => by
    induction m with
    | zero => simp
    | succ m ih =>
      rw [List.range_succ, List.map_append, sum_app, ih]
      show _ + (dlt at_ (m : Int) + 0) = _
      unfold dlt
      rw [Int.toNat_natCast]
      split <;> split <;> split <;> omega
  rw [this, if_pos h]
theorem dlt_nn (at_ : Nat) (g : List Int) : 0 ≤ (g.map (dlt at_)).sum := sum_nn fun w hw => by
  obtain ⟨i, _, rfl⟩ := List.mem_map.mp hw
  unfold dlt; split <;> omega
theorem pr_more (h : Pks ps) (n : Nat) : ∀ d : Nat, pr ps (n + d) ≤ pr ps n + d * pr ps 1
  | 0 => by simp
  | d + 1 => by
    have := pr_more h n d
    have a := pr_add h (n + d) 1
    rw [show n + (d + 1) = n + d + 1 by omega, show ((d + 1 : Nat) : Int) = d + 1 by omega, Int.add_mul, Int.one_mul]; omega
theorem cost_up (h : Pks ps) {ws : List Int} (hw : ∀ w ∈ ws, 0 ≤ w) {at_ : Nat} (ha : at_ < ws.length) : ∀ gs : List (List Int), costG (gcost ps ws) gs ≤ costG (gcost ps (upAt ws at_)) gs ∧ costG (gcost ps (upAt ws at_)) gs ≤ costG (gcost ps ws) gs + (gs.map fun g => (g.map (dlt at_)).sum).sum * pr ps 1
  | [] => by simp [costG]
  | g :: gs => by
    obtain ⟨i1, i2⟩ := cost_up h hw ha gs
    have e := gsum_up ha g
    have d0 := dlt_nn at_ g
    have g0 := gsum_nn' hw g
    have m1 := pr_mono h (show (gsum ws g).toNat ≤ (gsum (upAt ws at_) g).toNat by omega)
    have m2 := pr_more h (gsum ws g).toNat ((g.map (dlt at_)).sum).toNat
    rw [show (gsum ws g).toNat + ((g.map (dlt at_)).sum).toNat = (gsum (upAt ws at_) g).toNat by omega, show ((((g.map (dlt at_)).sum).toNat : Nat) : Int) = (g.map (dlt at_)).sum by omega] at m2
    show (gcost ps ws g :: gs.map (gcost ps ws)).sum ≤ (gcost ps (upAt ws at_) g :: gs.map (gcost ps (upAt ws at_))).sum ∧ (gcost ps (upAt ws at_) g :: gs.map (gcost ps (upAt ws at_))).sum ≤ (gcost ps ws g :: gs.map (gcost ps ws)).sum + _
    rw [List.sum_cons, List.sum_cons, List.map_cons, List.sum_cons, Int.add_mul, gcost_eq, gcost_eq]
    unfold costG at i1 i2
    constructor <;> omega
theorem inG_up (h : Pks ps) {ws : List Int} (hw : ∀ w ∈ ws, 0 ≤ w) {at_ : Nat} (ha : at_ < ws.length) {m : Int} (h1 : 1 ≤ m) : inG ps ws m ≤ inG ps (upAt ws at_) m ∧ inG ps (upAt ws at_) m ≤ inG ps ws m + pr ps 1 := by
  have el := upAt_len ha
  constructor
  · obtain ⟨gs, a, b, _⟩ := inG_ex h1 ps (upAt ws at_)
    rw [el] at a
    have := inG_le h1 ps ws a
    have := (cost_up h hw ha gs).1
    omega
  · obtain ⟨gs, a, b, _⟩ := inG_ex h1 ps ws
    have c := inG_le h1 ps (upAt ws at_) (by rw [el]; exact a)
    have d := (cost_up h hw ha gs).2
    have s : (gs.map fun g => (g.map (dlt at_)).sum).sum = 1 := (part_sum (dlt at_) h1 gs _ (allP_nodup _) a).trans (dlt_sum at_ _ ha)
    rw [s, Int.one_mul] at d
    omega
/-- the groups that are told: what they want, what they pay -/
theorem told_sums {m : Int} (h1 : 1 ≤ m) (ps : List Pack) (ws : List Int) : ((bestR ps ws m (allP ws.length)).2.map (gsum ws)).sum = ws.sum ∧ ((bestR ps ws m (allP ws.length)).2.map fun g => pr ps (gsum ws g).toNat).sum = inG ps ws m := by
  have s := bestR_spec h1 ps ws (allP ws.length)
  exact ⟨(part_sum (fun i => ws.getD i.toNat 0) h1 _ _ (allP_nodup _) s.part).trans (allP_sum ws), s.cost.symm⟩
/-! ### prices multiplied -/
theorem ltR_mul {t : Int} (ht : 1 ≤ t) (a b : GRow) : ltR (t * a.1, a.2) (t * b.1, b.2) = ltR a b := by
  simp only [ltR]
  by_cases e : a.1 = b.1
  · rw [if_pos e, if_pos (by rw [e])]
  · have e2 : ¬ t * a.1 = t * b.1 := fun z => e ((mul_eq_iff ht).mp z)
    rw [if_neg e, if_neg e2]
    exact decide_eq_decide.mpr (mul_lt_iff ht)
theorem costG_mul {t : Int} {c c' : List Int → Int} (e : ∀ g, c' g = t * c g) : ∀ gs : List (List Int), costG c' gs = t * costG c gs
  | [] => by simp [costG]
  | g :: gs => by
    have ih := costG_mul e gs
    unfold costG at ih ⊢
    rw [List.map_cons, List.map_cons, List.sum_cons, List.sum_cons, ih, e, Int.mul_add]
theorem bestR_mul {t m : Int} (ht : 1 ≤ t) (h1 : 1 ≤ m) (e : ∀ n, pr qs n = t * pr ps n) (ws us : List Int) : bestR qs ws m us = (t * (bestR ps ws m us).1, (bestR ps ws m us).2) := by
  have s := bestR_spec h1 ps ws us
  have ec : ∀ g, gcost qs ws g = t * gcost ps ws g := fun g => by rw [gcost_eq, gcost_eq, e]
  refine bestR_eq h1 ⟨s.part, ?_, fun gs hp => ?_⟩
  · rw [costG_mul ec, ← s.cost]
  · have l := s.least gs hp
    have := ltR_mul ht (costG (gcost ps ws) gs, gs) (bestR ps ws m us)
    dsimp only at this
    rw [costG_mul ec, this]; exact l
theorem mf_mul {t : Int} (ht : 1 ≤ t) (h : Pks ps) (h' : Pks qs) (e : ∀ n, pr qs n = t * pr ps n) (n : Int) : got qs n = got ps n := by
  unfold got
  by_cases c : 0 < n
  · rw [if_pos c, if_pos c]
    have m := mf_spec h (pr_nonneg h n.toNat)
    have m' : MostFor qs (pr qs n.toNat) (mf ps (pr ps n.toNat)) := ⟨by rw [e, e]; exact (mul_le_iff ht).mpr m.1, by rw [e, e]; exact (mul_lt_iff ht).mpr m.2⟩
    rw [mf_eq h' m']
  · rw [if_neg c, if_neg c]
theorem paid_mul {t : Int} (ht : 1 ≤ t) (h : Pks ps) (h' : Pks qs) (e : ∀ n, pr qs n = t * pr ps n) : ∀ (ws : List Int) (s : Int × Int), ws.foldl (stepW qs) (t * s.1, s.2) = (t * (ws.foldl (stepW ps) s).1, (ws.foldl (stepW ps) s).2)
  | [], s => rfl
  | w :: r, s => by
    rw [List.foldl_cons, List.foldl_cons]
    have : stepW qs (t * s.1, s.2) w = (t * (stepW ps s w).1, (stepW ps s w).2) := by
      unfold stepW
      dsimp only
      rw [e, mf_mul ht h h' e, Int.mul_add]
    rw [this]
    exact paid_mul ht h h' e r (stepW ps s w)
theorem paidFor_mul {t : Int} (ht : 1 ≤ t) (h : Pks ps) (h' : Pks qs) (e : ∀ n, pr qs n = t * pr ps n) (ws : List Int) : paidFor qs ws = (t * (paidFor ps ws).1, (paidFor ps ws).2) := by
  have := paid_mul ht h h' e ws (0, 0)
  rw [Int.mul_zero] at this
  exact this
theorem dv_mul {t : Int} (ht : 1 ≤ t) (h : Pks ps) (h' : Pks qs) (e : ∀ n, pr qs n = t * pr ps n) (n : Nat) : dv qs n = t * dv ps n := by
  have a : dv qs n ≤ t * dv ps n := by
    obtain ⟨ws, w1, w2, w3⟩ := dv_wishes h' n
    rw [← w3, paidFor_mul ht h h' e]
    have := paid_dv h w1
    rw [w2, Int.toNat_natCast] at this
    exact (mul_le_iff ht).mpr this
  have b : t * dv ps n ≤ dv qs n := by
    obtain ⟨ws, w1, w2, w3⟩ := dv_wishes h n
    have := paid_dv h' w1
    rw [w2, Int.toNat_natCast, paidFor_mul ht h h' e, w3] at this
    exact this
  omega
end
end PK

/-! Plain Lean: a further pack. -/
namespace PK
section
variable {ps qs : List Pack}
theorem bestR_congr (e : ∀ n, pr ps n = pr qs n) (ws us : List Int) (m : Int) : bestR ps ws m us = bestR qs ws m us := by
  have : gcost ps ws = gcost qs ws := by funext g; rw [gcost_eq, gcost_eq, e]
  unfold bestR; rw [this]
theorem more_none (h : Pks ps) {a : Pack} (h1 : 1 ≤ a.1) (h2 : 1 ≤ a.2) (e : hb ps a = none) (n : Nat) : pr (neededOf (ps ++ [a])) n = pr ps n := by
  have f := firstD_more h h1 h2
  rw [e] at f
  have le := or_le' h (one_pks h1 h2) n
  rw [neededOf_pr (h.app (one_pks h1 h2))] at le ⊢
  have := f n
  omega
theorem more_some (h : Pks ps) {a : Pack} (h1 : 1 ≤ a.1) (h2 : 1 ≤ a.2) {r : Nat} (e : hb ps a = some r) : pr (neededOf (ps ++ [a])) r < pr ps r := by
  have f := firstD_more h h1 h2
  rw [e] at f
  rw [neededOf_pr (h.app (one_pks h1 h2))]
  exact f.1
theorem twice_pr (h : Pks ps) (n : Nat) : pr (neededOf (ps ++ ps)) n = pr ps n := by
  rw [neededOf_pr (h.app h)]
  exact pr_congr (h.app h) (fun p => by simp) n
end
end PK

/-! Plain Lean: groups in any order; wishes in another order. -/
namespace PK
section
variable {ps qs : List Pack}
theorem perm_sum {a b : List Int} (h : a.Perm b) : a.sum = b.sum := by
  induction h with
  | nil => rfl
  | cons x _ ih => rw [List.sum_cons, List.sum_cons, ih]
  | swap x y l => simp only [List.sum_cons]; omega
  | trans _ _ ih1 ih2 => rw [ih1, ih2]
theorem perm_of_mem {α : Type} [DecidableEq α] : ∀ {a b : List α}, a.Nodup → b.Nodup → (∀ x, x ∈ a ↔ x ∈ b) → a.Perm b
  | [], b, _, _, h => by
    cases b with
    | nil => exact .nil
    | cons y t => exact absurd ((h y).mpr List.mem_cons_self) (by simp)
  | x :: r, b, na, nb, h => by
    have hx : x ∈ b := (h x).mp List.mem_cons_self
    have na' := List.nodup_cons.mp na
    have p1 := List.perm_cons_erase hx
    have nb' : (b.erase x).Nodup := nb.sublist (List.erase_sublist ..)
    have ih := perm_of_mem (a := r) (b := b.erase x) na'.2 nb' fun y => by
      constructor
      · intro hy
        have ne : y ≠ x := fun e => by subst e; exact na'.1 hy
        exact (List.mem_erase_of_ne ne).mpr ((h y).mp (List.mem_cons_of_mem _ hy))
      · intro hy
        have ne : y ≠ x := fun e => by
          subst e
          have := (p1.nodup_iff.mp nb)
          exact (List.nodup_cons.mp this).1 hy
        rcases List.mem_cons.mp ((h y).mpr ((List.mem_erase_of_ne ne).mp hy)) with e | e
        · exact absurd e ne
        · exact e
    exact (ih.cons x).trans p1.symm
/-- people put into groups, in any order -/
def GrOf (m : Int) (us : List Int) (G : List (List Int)) : Prop := G.flatten.Perm us ∧ ∀ g ∈ G, g ≠ [] ∧ (g.length : Int) ≤ m
theorem split_perm {us g : List Int} (nd : us.Nodup) (hg : g.Sublist us) : us.Perm (g ++ restOf us g) := by
  refine perm_of_mem nd ?_ fun x => ?_
  · refine List.nodup_append.mpr ⟨nd.sublist hg, restOf_nodup nd g, fun a ha b hb e => ?_⟩
    subst e
    exact (of_decide_eq_true (List.mem_filter.mp hb).2) ha
  · rw [List.mem_append]
    unfold restOf
    rw [List.mem_filter]
    constructor
    · intro h
      by_cases c : x ∈ g
      · exact .inl c
      · exact .inr ⟨h, decide_eq_true c⟩
    · rintro (h | h)
      · exact hg.subset h
      · exact h.1
theorem part_flat {m : Int} (h1 : 1 ≤ m) : ∀ (gs : List (List Int)) (us : List Int), us.Nodup → PartOf m us gs → gs.flatten.Perm us
  | [], us, _, p => by have e : us = [] := p
                       subst e; exact .nil
  | g :: gs, us, nd, p => by
    obtain ⟨a, b, c⟩ := p
    have ih := part_flat h1 gs _ (restOf_nodup nd g) c
    rw [List.flatten_cons]
    exact ((ih.append_left g)).trans (split_perm nd (groupsW_sub h1 b).1).symm
theorem cost_perm {c : List Int → Int} {A B : List (List Int)} (h : A.Perm B) : costG c A = costG c B := perm_sum (h.map c)
/-- groups in any order cost what some groups in order cost -/
theorem canon {m : Int} (h1 : 1 ≤ m) : ∀ (n : Nat) (us : List Int), us.length ≤ n → us.Nodup → ∀ G, GrOf m us G → ∃ gs, PartOf m us gs ∧ ∀ c : List Int → Int, (∀ g g', g.Perm g' → c g = c g') → costG c gs = costG c G
  | n, [], _, _, G, h => by
    have hf : G.flatten = [] := List.Perm.eq_nil h.1
    have e : G = [] := by
      cases G with
      | nil => rfl
      | cons g r =>
        rw [List.flatten_cons, List.append_eq_nil_iff] at hf
        exact absurd hf.1 (h.2 g List.mem_cons_self).1
    subst e
    exact ⟨[], rfl, fun _ _ => rfl⟩
  | 0, p :: r, hl, _, G, h => by simp at hl
  | n + 1, p :: r, hl, nd, G, h => by
    obtain ⟨hp, hs⟩ := h
    have hm : p ∈ G.flatten := hp.mem_iff.mpr List.mem_cons_self
    obtain ⟨g0, hg0, hpg⟩ := List.mem_flatten.mp hm
    have ndf : G.flatten.Nodup := hp.nodup_iff.mpr nd
    have nd0 : g0.Nodup := ndf.sublist (List.sublist_flatten_of_mem hg0)
    have sub0 : ∀ x ∈ g0, x ∈ p :: r := fun x hx => hp.mem_iff.mp (List.mem_flatten.mpr ⟨g0, hg0, hx⟩)
    let g := (p :: r).filter fun x => decide (x ∈ g0)
    have gsub : g.Sublist (p :: r) := List.filter_sublist
    have gp : g0.Perm g := perm_of_mem nd0 (nd.sublist gsub) fun x => by
      show x ∈ g0 ↔ x ∈ (p :: r).filter fun x => decide (x ∈ g0)
      rw [List.mem_filter]
      constructor
      · intro hx; exact ⟨sub0 x hx, decide_eq_true hx⟩
      · intro hx; exact of_decide_eq_true hx.2
    have eg : g = p :: r.filter fun x => decide (x ∈ g0) := List.filter_cons_of_pos (by simpa using hpg)
    have gw : g ∈ groupsW m (p :: r) := (mem_groupsW h1).mpr ⟨_, List.filter_sublist, eg, by rw [← gp.length_eq]; exact (hs g0 hg0).2⟩
    have pe := List.perm_cons_erase hg0
    have fp : (G.erase g0).flatten.Perm (restOf (p :: r) g) := by
      have a1 : (g0 ++ (G.erase g0).flatten).Perm (p :: r) := by
        have := pe.flatten
        rw [List.flatten_cons] at this
        exact this.symm.trans hp
      have a2 := split_perm nd gsub
      have a3 : (g0 ++ (G.erase g0).flatten).Perm (g0 ++ restOf (p :: r) g) := (a1.trans a2).trans (gp.symm.append_right _)
      exact (List.perm_append_left_iff g0).mp a3
    have rl := restOf_less h1 gw
    rw [List.length_cons] at hl
    obtain ⟨gs, i1, i2⟩ := canon h1 n (restOf (p :: r) g) (by omega) (restOf_nodup nd g) (G.erase g0) ⟨fp, fun x hx => hs x (List.mem_of_mem_erase hx)⟩
    refine ⟨g :: gs, ⟨by simp, gw, i1⟩, fun c hc => ?_⟩
    rw [cost_perm (c := c) pe]
    show c g + (gs.map c).sum = c g0 + ((G.erase g0).map c).sum
    have := i2 c hc
    unfold costG at this
    rw [this, hc g0 g gp]
theorem gcost_perm (ps : List Pack) (ws : List Int) {g g' : List Int} (h : g.Perm g') : gcost ps ws g = gcost ps ws g' := by
  rw [gcost_eq, gcost_eq]
  unfold gsum
  rw [perm_sum (h.map _)]
theorem inG_gr {m : Int} (h1 : 1 ≤ m) (ps : List Pack) (ws : List Int) {G : List (List Int)} (h : GrOf m (allP ws.length) G) : inG ps ws m ≤ costG (gcost ps ws) G := by
  obtain ⟨gs, a, b⟩ := canon h1 _ _ (Nat.le_refl _) (allP_nodup _) G h
  rw [← b (gcost ps ws) fun g g' hp => gcost_perm ps ws hp]
  exact inG_le h1 ps ws a
end
end PK

/-! Plain Lean: groups of wishes (not of people); wishes in another order. -/
namespace PK
section
theorem perm_lift {α β : Type} (v : α → β) {L M : List β} (h : L.Perm M) : ∀ us : List α, us.map v = M → ∃ L' : List α, L'.Perm us ∧ L'.map v = L := by
  induction h with
  | nil => intro us e; exact ⟨us, .refl _, e⟩
  | cons x _ ih =>
    intro us e
    cases us with
    | nil => cases e
    | cons u r =>
      rw [List.map_cons] at e
      injection e with e1 e2
      obtain ⟨L', a, b⟩ := ih r e2
      exact ⟨u :: L', a.cons u, by rw [List.map_cons, b, e1]⟩
  | swap x y l =>
    intro us e
    match us, e with
    | u :: w :: r, e =>
      simp only [List.map_cons, List.cons.injEq] at e
      obtain ⟨e1, e2, e3⟩ := e
      exact ⟨w :: u :: r, .swap .., by simp [e1, e2, e3]⟩
  | trans _ _ ih1 ih2 =>
    intro us e
    obtain ⟨M', a, b⟩ := ih2 us e
    obtain ⟨L', c, d⟩ := ih1 M' b
    exact ⟨L', c.trans a, d⟩
theorem split_lift {α β : Type} (v : α → β) : ∀ (G : List (List β)) (L : List α), L.map v = G.flatten → ∃ G' : List (List α), G'.flatten = L ∧ G'.map (List.map v) = G
  | [], L, e => by
    have : L = [] := List.map_eq_nil_iff.mp e
    subst this
    exact ⟨[], rfl, rfl⟩
  | g :: G, L, e => by
    rw [List.flatten_cons] at e
    obtain ⟨a, b, rfl, e1, e2⟩ := List.map_eq_append_iff.mp e
    obtain ⟨G', c, d⟩ := split_lift v G b e2
    exact ⟨a :: G', by rw [List.flatten_cons, c], by rw [List.map_cons, d, e1]⟩
/-- wishes put into groups -/
def WGr (m : Int) (ws : List Int) (G : List (List Int)) : Prop := G.flatten.Perm ws ∧ ∀ g ∈ G, g ≠ [] ∧ (g.length : Int) ≤ m
def wcost (ps : List Pack) (G : List (List Int)) : Int := (G.map fun g => pr ps g.sum.toNat).sum
theorem allP_getD (ws : List Int) : (allP ws.length).map (fun i => ws.getD i.toNat 0) = ws := by
  have := allP_map ws id
  simpa using this
theorem inG_wle {m : Int} (h1 : 1 ≤ m) (ps : List Pack) (ws : List Int) {G : List (List Int)} (h : WGr m ws G) : inG ps ws m ≤ wcost ps G := by
  obtain ⟨a, b⟩ := h
  obtain ⟨L, c, d⟩ := perm_lift (fun i : Int => ws.getD i.toNat 0) a (allP ws.length) (allP_getD ws)
  obtain ⟨G', e, f⟩ := split_lift _ G L d
  have key := inG_gr h1 ps ws (G := G') ⟨by rw [e]; exact c, fun g hg => by
    have := b _ (by rw [← f]; exact List.mem_map_of_mem hg)
    rw [List.length_map] at this
    exact ⟨fun e => this.1 (by rw [e]; rfl), this.2⟩⟩
  have e2 : costG (gcost ps ws) G' = wcost ps G := by
    unfold costG wcost
    rw [← f, List.map_map]
    rfl
  rw [← e2]; exact key
theorem inG_wex {m : Int} (h1 : 1 ≤ m) (ps : List Pack) (ws : List Int) : ∃ G, WGr m ws G ∧ inG ps ws m = wcost ps G := by
  obtain ⟨gs, a, b, _⟩ := inG_ex h1 ps ws
  refine ⟨gs.map (List.map fun i : Int => ws.getD i.toNat 0), ⟨?_, fun g hg => ?_⟩, ?_⟩
  · have p := (part_flat h1 gs _ (allP_nodup _) a).map (fun i : Int => ws.getD i.toNat 0)
    rw [allP_getD, List.map_flatten] at p
    exact p
  · obtain ⟨g', hg', rfl⟩ := List.mem_map.mp hg
    have := part_mem h1 gs _ a g' hg'
    refine ⟨fun e => this.2.1 (List.map_eq_nil_iff.mp e), by rw [List.length_map]; exact this.2.2⟩
  · rw [b]
    unfold costG wcost
    rw [List.map_map]
    rfl
/-- **wishes in another order** -/
theorem inG_perm {m : Int} (h1 : 1 ≤ m) (ps : List Pack) {ws ws' : List Int} (h : ws.Perm ws') : inG ps ws m = inG ps ws' m := by
  obtain ⟨G, a, b⟩ := inG_wex h1 ps ws
  obtain ⟨G', a', b'⟩ := inG_wex h1 ps ws'
  have l1 := inG_wle h1 ps ws' (G := G) ⟨a.1.trans h, a.2⟩
  have l2 := inG_wle h1 ps ws (G := G') ⟨a'.1.trans h.symm, a'.2⟩
  omega
end
end PK

set_option Elab.async false
set_option linter.all false
set_option autoImplicit false
set_option maxRecDepth 100000
set_option maxHeartbeats 2000000
/-! The data layer: what a body does, told of plain data, the heap out of sight. -/
namespace DL
open PySem PySem.Spec PyProof.Rows L2 PK

/-! ### data -/
inductive Dt where
  | non | bl (b : Bool) | int (i : Int) | str (x : Str) | lst (xs : List Dt) | tup (xs : List Dt) | shop (ps : List Pack) | scr (ns : List Int) | ty (n : String) | cls (C : Addr)
/-- the classes' addresses -/
structure Cl where
  shop : Addr
  cart : Addr
def pk (p : Pack) : Dt := .tup [.int p.1, .int p.2]

def Ex (H H' : Hp) : Prop := ∀ a o, H a = some o → H' a = some o
theorem Ex.refl (H : Hp) : Ex H H := fun _ _ h => h
theorem Ex.trans {H H1 H2 : Hp} (a : Ex H H1) (b : Ex H1 H2) : Ex H H2 := fun x o h => b x o (a x o h)
theorem Ex.new {H : Hp} {p : Addr} {o : HO} (h : H p = none) : Ex H (upd H p o) := fun a u e => by
  rw [upd_ne (ne_of_none e h)]
  exact e
theorem Ex.free {H H' : Hp} (e : Ex H H') {l : Addr} (h : H' l = Option.none) : H l = Option.none := by
  cases q : H l with
  | none => rfl
  | some o => rw [e l o q] at h; cases h
theorem Ex.upd2 {H H' : Hp} {p : Addr} {o : HO} (e : Ex H H') (h : H p = none) : Ex (upd H p o) (upd H' p o) := fun a u q => by
  by_cases ha : a = p
  · subst ha; rw [upd_same] at q ⊢; exact q
  · rw [upd_ne ha] at q ⊢; exact e a u q
/-- what is outside may change -/
theorem Ex.mut {H H' : Hp} {p : Addr} {o : HO} (e : Ex H H') (h : H p = none) : Ex H (upd H' p o) := fun a u ha => by
  rw [upd_ne (ne_of_none ha h)]
  exact e a u ha
theorem ex_rd {H H' : Hp} {a : Addr} {u : HO} (e : Ex H H') (h : Rd H a u) : Rd H' a u := by
  rcases h with h | ⟨o, h⟩
  · exact Or.inl (e a _ h)
  · exact Or.inr ⟨o, e a _ h⟩
theorem ex_l {K : PySem.W.Frag} {H H' : Hp} {a : Addr} {xs : List V} (e : Ex H H') (h : SqL K H a xs) : SqL K H' a xs := by
  rcases h with h | h
  · exact Or.inl (ex_rd e h)
  · exact Or.inr h
theorem ex_t {K : PySem.W.Frag} {H H' : Hp} {a : Addr} {xs : List V} (e : Ex H H') (h : SqT K H a xs) : SqT K H' a xs := by
  rcases h with h | h
  · exact Or.inl (ex_rd e h)
  · exact Or.inr h
theorem sq_of {K : PySem.W.Frag} {H : Hp} {a : Addr} {xs : List V} (h : H a = some (.lst xs)) : SqL K H a xs := Or.inl (Or.inl h)
theorem st_of {K : PySem.W.Frag} {H : Hp} {a : Addr} {xs : List V} (h : H a = some (.tup xs)) : SqT K H a xs := Or.inl (Or.inl h)

def shopF (tn tb lk : Addr) : List (Str × V) := [("needed", .ref tn), ("best", .ref tb), ("known", .ref lk)]
mutual
/-- the value bears the datum in the heap -/
inductive Rep (K : PySem.W.Frag) (g : Cl) (H : Hp) : V → Dt → Prop
  | non : Rep K g H .non .non
  | bl (b : Bool) : Rep K g H (.bl b) (.bl b)
  | int (i : Int) : Rep K g H (.int i) (.int i)
  | str (x : Str) : Rep K g H (.str x) (.str x)
  | lst {a : Addr} {xs : List V} {ds : List Dt} : H a = some (.lst xs) → RepL K g H xs ds → Rep K g H (.ref a) (.lst ds)
  | tup {a : Addr} {xs : List V} {ds : List Dt} : H a = some (.tup xs) → RepL K g H xs ds → Rep K g H (.ref a) (.tup ds)
  | ty (n : String) : Rep K g H (.ty n) (.ty n)
  | cls (C : Addr) : Rep K g H (.ref C) (.cls C)
  | scr {a : Addr} {ns : List Int} : SqL K H a (ns.map V.int) → Rep K g H (.ref a) (.scr ns)
  | shop {a dx tn tb lk : Addr} {vs : List V} {ps : List Pack} : OkShop ps → H a = some (.ins g.shop dx (shopF tn tb lk)) → H tn = some (.tup vs) → RepL K g H vs (ps.map pk) →
      H tb = some (.tup [.int (bestOf ps).1, .int (bestOf ps).2]) → H lk = some (.lst ((knownOf ps).map V.int)) → Rep K g H (.ref a) (.shop ps)
inductive RepL (K : PySem.W.Frag) (g : Cl) (H : Hp) : List V → List Dt → Prop
  | nil : RepL K g H [] []
  | cons {v : V} {vs : List V} {d : Dt} {ds : List Dt} : Rep K g H v d → RepL K g H vs ds → RepL K g H (v :: vs) (d :: ds)
end
section
variable {K : PySem.W.Frag} {g : Cl} {H H' : Hp}
mutual
theorem Rep.mono (e : Ex H H') : ∀ {v : V} {d : Dt}, Rep K g H v d → Rep K g H' v d
  | _, _, .non => .non
  | _, _, .bl b => .bl b
  | _, _, .int i => .int i
  | _, _, .str x => .str x
  | _, _, .lst h r => .lst (e _ _ h) (RepL.mono e r)
  | _, _, .tup h r => .tup (e _ _ h) (RepL.mono e r)
  | _, _, .ty n => .ty n
  | _, _, .cls n => .cls n
  | _, _, .scr h => .scr (ex_l e h)
  | _, _, .shop k h1 h2 r h3 h4 => .shop k (e _ _ h1) (e _ _ h2) (RepL.mono e r) (e _ _ h3) (e _ _ h4)
theorem RepL.mono (e : Ex H H') : ∀ {vs : List V} {ds : List Dt}, RepL K g H vs ds → RepL K g H' vs ds
  | _, _, .nil => .nil
  | _, _, .cons r t => .cons (Rep.mono e r) (RepL.mono e t)
end
theorem RepL.length : ∀ {vs : List V} {ds : List Dt}, RepL K g H vs ds → vs.length = ds.length
  | _, _, .nil => rfl
  | _, _, .cons _ t => congrArg (· + 1) (RepL.length t)
theorem RepL.get : ∀ {vs : List V} {ds : List Dt} {i : Nat} {d : Dt}, RepL K g H vs ds → ds[i]? = some d → ∃ v, vs[i]? = some v ∧ Rep K g H v d
  | _, _, _, _, .nil, h => by simp at h
  | _, _, 0, _, .cons r _, h => by simp at h; subst h; exact ⟨_, rfl, r⟩
  | _, _, i + 1, _, .cons _ t, h => by
    obtain ⟨v, e, r⟩ := RepL.get (i := i) t (by simpa using h)
    exact ⟨v, by simpa using e, r⟩
theorem RepL.getV : ∀ {vs : List V} {ds : List Dt} {i : Nat} {v : V}, RepL K g H vs ds → vs[i]? = some v → ∃ d, ds[i]? = some d ∧ Rep K g H v d
  | _, _, _, _, .nil, h => by simp at h
  | _, _, 0, _, .cons r _, h => by simp at h; subst h; exact ⟨_, rfl, r⟩
  | _, _, i + 1, _, .cons _ t, h => by
    obtain ⟨v, e, r⟩ := RepL.getV (i := i) t (by simpa using h)
    exact ⟨v, by simpa using e, r⟩
theorem RepL.append : ∀ {vs ws : List V} {ds es : List Dt}, RepL K g H vs ds → RepL K g H ws es → RepL K g H (vs ++ ws) (ds ++ es)
  | _, _, _, _, .nil, s => s
  | _, _, _, _, .cons r t, s => .cons r (RepL.append t s)
theorem RepL.set {v : V} {d : Dt} (r : Rep K g H v d) : ∀ {vs : List V} {ds : List Dt} (i : Nat), RepL K g H vs ds → RepL K g H (vs.set i v) (ds.set i d)
  | _, _, _, .nil => .nil
  | _, _, 0, .cons _ t => .cons r t
  | _, _, i + 1, .cons q t => .cons q (RepL.set r i t)
theorem RepL.take : ∀ {vs : List V} {ds : List Dt} (n : Nat), RepL K g H vs ds → RepL K g H (vs.take n) (ds.take n)
  | _, _, 0, _ => .nil
  | _, _, _ + 1, .nil => .nil
  | _, _, n + 1, .cons r t => .cons r (RepL.take n t)
theorem RepL.drop : ∀ {vs : List V} {ds : List Dt} (n : Nat), RepL K g H vs ds → RepL K g H (vs.drop n) (ds.drop n)
  | _, _, 0, r => r
  | _, _, _ + 1, .nil => .nil
  | _, _, n + 1, .cons _ t => RepL.drop n t
theorem RepL.ints : ∀ {vs : List V} {ns : List Int}, RepL K g H vs (ns.map Dt.int) → vs = ns.map V.int
  | [], [], _ => rfl
  | _ :: _, _ :: _, .cons r t => by cases r; rw [RepL.ints t]; rfl
theorem RepL.of_ints : ∀ (ns : List Int), RepL K g H (ns.map V.int) (ns.map Dt.int)
  | [] => .nil
  | i :: r => .cons (.int i) (RepL.of_ints r)
theorem RepL.of_bools : ∀ (ns : List Bool), RepL K g H (ns.map V.bl) (ns.map Dt.bl)
  | [] => .nil
  | i :: r => .cons (.bl i) (RepL.of_bools r)
theorem RepL.bools : ∀ {vs : List V} {ns : List Bool}, RepL K g H vs (ns.map Dt.bl) → vs = ns.map V.bl
  | [], [], _ => rfl
  | _ :: _, _ :: _, .cons r t => by cases r; rw [RepL.bools t]; rfl
theorem RepL.strs : ∀ {vs : List V} {ns : List Str}, RepL K g H vs (ns.map Dt.str) → vs = ns.map V.str
  | [], [], _ => rfl
  | _ :: _, _ :: _, .cons r t => by cases r; rw [RepL.strs t]; rfl
end

/-! ### what a slot holds -/
inductive OD where
  | lst (ds : List Dt) | src | dK (kvs : List (Key × Dt)) | dT (kvs : List (List Key × Dt)) | cart (dx l : Addr) (st : List Dt) | obj (C dx : Addr) (fs : List (Str × Dt)) | memo (J : List Int → Dt → Prop) (U : List (List Int))
/-- anything | a datum that never changes | an object that this name alone holds -/
inductive Slot where
  | no | im (d : Dt) | own (p : Addr) (o : OD)
def OD.fp (p : Addr) : OD → List Addr
  | .cart dx l _ => [p, dx, l]
  | .obj _ dx _ => [p, dx]
  | _ => [p]
def Slot.fp : Slot → List Addr
  | .own p o => o.fp p
  | _ => []
/-- the source of draws -/
def SrcOk (a b : Int) : Prop := 0 ≤ a ∧ 0 ≤ b ∧ b ≤ 2147483646
def KRep {κ : Type} (K : PySem.W.Frag) (g : Cl) (H : Hp) (kws : List (κ × V)) (kvs : List (κ × Dt)) : Prop := kws.map (·.1) = kvs.map (·.1) ∧ RepL K g H (kws.map (·.2)) (kvs.map (·.2))
/-- a dict of answers: its keys tuples of ints out of U, what it holds at them as J says -/
def MemoOk (J : List Int → Dt → Prop) (U : List (List Int)) (kvs : List (List Key × Dt)) : Prop := (kvs.map (·.1)).Nodup ∧ ∀ e ∈ kvs, ∃ us ∈ U, e.1 = us.map Sum.inl ∧ J us e.2
def OwR (K : PySem.W.Frag) (g : Cl) (H0 H : Hp) (p : Addr) : OD → Prop
  | .lst ds => ∃ vs, H p = some (.lst vs) ∧ RepL K g H0 vs ds
  | .src => ∃ a b : Int, H p = some (.lst [.int a, .int b]) ∧ SrcOk a b
  | .dK kvs => ∃ kws, H p = some (.dK kws) ∧ KRep K g H0 kws kvs
  | .dT kvs => ∃ kws, H p = some (.dT kws) ∧ KRep K g H0 kws kvs
  | .cart dx l st => H p = some (.ins g.cart dx [("states", .ref l)]) ∧ H dx = some (.own p) ∧ ∃ vs, H l = some (.lst vs) ∧ RepL K g H0 vs st
  | .obj C dx fs => H dx = some (.own p) ∧ ∃ fv, H p = some (.ins C dx fv) ∧ KRep K g H0 fv fs
  | .memo J U => ∃ kvs kws, H p = some (.dT kws) ∧ KRep K g H0 kws kvs ∧ MemoOk J U kvs
def SlR (K : PySem.W.Frag) (g : Cl) (H0 H : Hp) (x : Option (Option V)) : Slot → Prop
  | .no => True
  | .im d => ∃ v, x = some (some v) ∧ Rep K g H0 v d
  | .own p o => x = some (some (.ref p)) ∧ OwR K g H0 H p o
theorem OwR.keep {K : PySem.W.Frag} {g : Cl} {H0 H0' H H' : Hp} {p : Addr} (e : Ex H0 H0') : ∀ {o : OD}, (∀ a ∈ o.fp p, ∀ u, H a = some u → H' a = some u) → OwR K g H0 H p o → OwR K g H0' H' p o
  | .lst ds, k, ⟨vs, h, r⟩ => ⟨vs, k p (by simp [OD.fp]) _ h, r.mono e⟩
  | .src, k, ⟨a, b, h, r⟩ => ⟨a, b, k p (by simp [OD.fp]) _ h, r⟩
  | .dK kvs, k, ⟨kws, h, r⟩ => ⟨kws, k p (by simp [OD.fp]) _ h, r.1, r.2.mono e⟩
  | .dT kvs, k, ⟨kws, h, r⟩ => ⟨kws, k p (by simp [OD.fp]) _ h, r.1, r.2.mono e⟩
  | .cart dx l st, k, ⟨h1, h2, vs, h3, r⟩ => ⟨k p (by simp [OD.fp]) _ h1, k dx (by simp [OD.fp]) _ h2, vs, k l (by simp [OD.fp]) _ h3, r.mono e⟩
  | .obj C dx fs, k, ⟨h1, fv, h2, r⟩ => ⟨k dx (by simp [OD.fp]) _ h1, fv, k p (by simp [OD.fp]) _ h2, r.1, r.2.mono e⟩
  | .memo J U, k, ⟨kvs, kws, h, r, m⟩ => ⟨kvs, kws, k p (by simp [OD.fp]) _ h, ⟨r.1, r.2.mono e⟩, m⟩
theorem OwR.some_of {K : PySem.W.Frag} {g : Cl} {H0 H : Hp} {p a : Addr} : ∀ {o : OD}, OwR K g H0 H p o → a ∈ o.fp p → ∃ u, H a = some u
  | .lst ds, ⟨vs, h, r⟩, m => by simp [OD.fp] at m; subst m; exact ⟨_, h⟩
  | .src, ⟨_, _, h, r⟩, m => by simp [OD.fp] at m; subst m; exact ⟨_, h⟩
  | .dK kvs, ⟨kws, h, r⟩, m => by simp [OD.fp] at m; subst m; exact ⟨_, h⟩
  | .dT kvs, ⟨kws, h, r⟩, m => by simp [OD.fp] at m; subst m; exact ⟨_, h⟩
  | .cart dx l st, ⟨h1, h2, vs, h3, r⟩, m => by
    simp [OD.fp] at m
    rcases m with m | m | m <;> subst m
    · exact ⟨_, h1⟩
    · exact ⟨_, h2⟩
    · exact ⟨_, h3⟩
  | .obj C dx fs, ⟨h1, fv, h2, r⟩, m => by
    simp [OD.fp] at m
    rcases m with m | m <;> subst m
    · exact ⟨_, h2⟩
    · exact ⟨_, h1⟩
  | .memo J U, ⟨kvs, kws, h, r⟩, m => by simp [OD.fp] at m; subst m; exact ⟨_, h⟩
/-- the state: H0 what never changes, Fr what is others', σ the values, S what is known of them -/
structure StR (K : PySem.W.Frag) (g : Cl) (Fr H0 H : Hp) (σ : L2.St) (S : List Slot) : Prop where
  ex : Ex H0 H
  fr : Ex Fr H
  dis : ∀ a o, Fr a = some o → H0 a = none
  len : σ.length = S.length
  sl : ∀ (i : Nat) (s : Slot), S[i]? = some s → SlR K g H0 H (σ[i]?) s
  nd : (S.flatMap Slot.fp).Nodup
  free : ∀ a ∈ S.flatMap Slot.fp, H0 a = none ∧ Fr a = none
section
variable {K : PySem.W.Frag} {g : Cl} {Fr H0 H0' H H' : Hp} {σ : L2.St} {S : List Slot}
theorem SlR.keep {x : Option (Option V)} (e : Ex H0 H0') : ∀ {s : Slot}, (∀ a ∈ s.fp, ∀ u, H a = some u → H' a = some u) → SlR K g H0 H x s → SlR K g H0' H' x s
  | .no, _, _ => trivial
  | .im d, _, ⟨v, h, r⟩ => ⟨v, h, r.mono e⟩
  | .own p o, k, ⟨h, r⟩ => ⟨h, r.keep e k⟩
theorem mem_fp {s : Slot} {a : Addr} (h : s ∈ S) (m : a ∈ s.fp) : a ∈ S.flatMap Slot.fp := List.mem_flatMap.mpr ⟨s, h, m⟩
/-- the heap grows -/
theorem StR.grow (st : StR K g Fr H0 H σ S) (e : Ex H H') : StR K g Fr H0 H' σ S :=
  ⟨st.ex.trans e, st.fr.trans e, st.dis, st.len, fun i s h => (st.sl i s h).keep (Ex.refl _) fun a _ u q => e a u q, st.nd, st.free⟩
/-- a new object that never changes -/
theorem StR.new {p : Addr} {o : HO} (st : StR K g Fr H0 H σ S) (hp : H p = none) : StR K g Fr (upd H0 p o) (upd H p o) σ S := by
  have h0 : H0 p = none := st.ex.free hp
  have hne : ∀ a ∈ S.flatMap Slot.fp, a ≠ p := fun a ha e => by
    obtain ⟨s, hs, m⟩ := List.mem_flatMap.mp ha
    obtain ⟨i, hi⟩ := List.mem_iff_getElem?.mp hs
    have q := st.sl i s hi
    cases s with
    | no => simp [Slot.fp] at m
    | im d => simp [Slot.fp] at m
    | own p' o' => obtain ⟨u, hu⟩ := q.2.some_of m; rw [e, hp] at hu; cases hu
  refine ⟨st.ex.upd2 h0, st.fr.trans (Ex.new hp), fun a u e => ?_, st.len, fun i s h => (st.sl i s h).keep (Ex.new h0) fun a m u q => Ex.new hp a u q, st.nd, fun a ha => ?_⟩
  · have : a ≠ p := ne_of_none (st.fr a u e) hp
    rw [upd_ne this]; exact st.dis a u e
  · rw [upd_ne (hne a ha)]; exact st.free a ha
/-- a slot is stored: a datum -/
theorem StR.set_im {i : Nat} {v : V} {d : Dt} (st : StR K g Fr H0 H σ S) (r : Rep K g H0 v d) : StR K g Fr H0 H (σ.set i (some v)) (S.set i (.im d)) := by
  have hsub : ∀ {S : List Slot} {i : Nat}, ((S.set i (.im d)).flatMap Slot.fp).Sublist (S.flatMap Slot.fp) := by
    intro S
    induction S with
    | nil => intro i; simp
    | cons s r ih =>
      intro i
      cases i with
      | zero => simp [Slot.fp]
      | succ i => simp only [List.set_cons_succ, List.flatMap_cons]; exact List.Sublist.append (List.Sublist.refl _) ih
  refine ⟨st.ex, st.fr, st.dis, by simp [st.len], fun j s h => ?_, st.nd.sublist hsub, fun a ha => st.free a (hsub.subset ha)⟩
  by_cases e : i = j
  · subst e
    by_cases hi : i < S.length
    · rw [List.getElem?_set_self hi] at h
      cases h
      exact ⟨v, by rw [List.getElem?_set_self (by rw [st.len]; exact hi)], r⟩
    · rw [List.getElem?_eq_none (by simpa using hi)] at h; cases h
  · rw [List.getElem?_set_ne e] at h ⊢
    exact st.sl j s h
theorem sub_no {S : List Slot} {i : Nat} : ((S.set i .no).flatMap Slot.fp).Sublist (S.flatMap Slot.fp) := by
  induction S generalizing i with
  | nil => simp
  | cons s r ih =>
    cases i with
    | zero => simp [Slot.fp]
    | succ i => simp only [List.set_cons_succ, List.flatMap_cons]; exact List.Sublist.append (List.Sublist.refl _) ih
/-- a slot is forgotten -/
theorem StR.forget {i : Nat} (st : StR K g Fr H0 H σ S) : StR K g Fr H0 H σ (S.set i .no) := by
  refine ⟨st.ex, st.fr, st.dis, by simp [st.len], fun j s h => ?_, st.nd.sublist sub_no, fun a ha => st.free a (sub_no.subset ha)⟩
  by_cases e : i = j
  · subst e
    by_cases hi : i < S.length
    · rw [List.getElem?_set_self hi] at h
      cases h
      trivial
    · rw [List.getElem?_eq_none (by simpa using hi)] at h; cases h
  · rw [List.getElem?_set_ne e] at h
    exact st.sl j s h
/-- a slot may hold anything where nothing is known of it -/
theorem StR.set_no {i : Nat} {o : Option V} (st : StR K g Fr H0 H σ S) : StR K g Fr H0 H (σ.set i o) (S.set i .no) := by
  refine ⟨st.ex, st.fr, st.dis, by simp [st.len], fun j s h => ?_, st.nd.sublist sub_no, fun a ha => st.free a (sub_no.subset ha)⟩
  by_cases e : i = j
  · subst e
    by_cases hi : i < S.length
    · rw [List.getElem?_set_self hi] at h
      cases h
      trivial
    · rw [List.getElem?_eq_none (by simpa using hi)] at h; cases h
  · rw [List.getElem?_set_ne e] at h ⊢
    exact st.sl j s h
end
end DL

set_option Elab.async false
set_option linter.all false
set_option autoImplicit false
set_option maxRecDepth 100000
set_option maxHeartbeats 2000000
/-! The data layer, second part: the readings by meaning, expressions. -/
namespace DL
open PySem PySem.Spec PyProof.Rows L2 PK

/-! ### readings by meaning -/
section
variable (X : Cx)
def tSem (e : Expr) : TE := fun σ H Q => ∀ pins s, Inv X pins σ H s → wpAny (model X.prog X.w) X.A (eval e X.env) (EP X pins σ Q) X.xe s
def tSemA (es : List Expr) : TA := fun σ H Q => ∀ pos pins s, Inv X pins σ H s → wpAny (model X.prog X.w) X.A (spliced (backTo pos (starEach es X.env))) (AP X pins σ Q) X.xe s
def tSemT (e : Expr) : TT := fun σ H Q => ∀ pins s, Inv X pins σ H s → wpAny (model X.prog X.w) X.A (isTrue e X.env (eval e X.env)) (TP X pins σ Q) X.xe s
def tSemW (e : Expr) : TT := fun σ H Q => ∀ whole pins s, Inv X pins σ H s → wpAny (model X.prog X.w) X.A (isTrue e X.env whole) (TP X pins σ Q) X.xe s
def tSemS (st : Stmt) : TS := fun D σ H => ∀ pins s, Inv X pins σ H s → wpAny (model X.prog X.w) X.A (exec st X.env) (SP X pins D) X.xe s
def tSemSs (st : List Stmt) : TS := fun D σ H => ∀ pins s, Inv X pins σ H s → wpAny (model X.prog X.w) X.A (execs st X.env) (SP X pins D) X.xe s
def rSem (f : Value → Value → Sem Value) : R2 := fun x y H Q => ∀ pins s σ v u, Inv X pins σ H s → RelV x v → RelV y u → wpAny (model X.prog X.w) X.A (f v u) (EP X pins σ Q) X.xe s
def uSem (f : Value → Sem Value) : V → Hp → VK → Prop := fun x H Q => ∀ pins s σ v, Inv X pins σ H s → RelV x v → wpAny (model X.prog X.w) X.A (f v) (EP X pins σ Q) X.xe s
def cSem (f : Value) : List V → Hp → VK → Prop := fun xs H Q => ∀ pins s σ us, Inv X pins σ H s → Vals xs us → wpAny (model X.prog X.w) X.A (call f us) (EP X pins σ Q) X.xe s
def ixSem (r : R2) : R2 := r
end
section
variable {X : Cx} {e : Expr} {es : List Expr} {st : Stmt} {sts : List Stmt} {σ : L2.St} {H : Hp}
theorem pe_sem : PE X e (tSem X e) := ⟨fun pins s _ _ _ I h => h pins s I⟩
theorem pa_sem : PA X es (tSemA X es) := ⟨fun pos pins s _ _ _ I h => h pos pins s I⟩
theorem pt_sem : PT X e (tSemT X e) := ⟨fun pins s _ _ _ I h => h pins s I⟩
theorem pw_sem : PW X e (tSemW X e) := ⟨fun wh pins s _ _ _ I h => h wh pins s I⟩
theorem ps_sem : PS X st (tSemS X st) := ⟨fun pins s _ _ _ I h => h pins s I⟩
theorem pss_sem : PSs X sts (tSemSs X sts) := ⟨fun pins s _ _ _ I h => h pins s I⟩
theorem op_sem {f : Value → Value → Sem Value} : OpR X f (rSem X f) := fun pins s σ _ _ _ v u _ I rx ry h => h pins s σ v u I rx ry
theorem un_sem {f : Value → Sem Value} : UnR X f (uSem X f) := fun pins s σ _ _ v _ I rx h => h pins s σ v I rx
theorem call_sem {f : Value} : CallR X f (cSem X f) := fun pins s σ _ _ us _ I r h => h pins s σ us I r
theorem sem_of {t : TE} {Q : VK} (h : PE X e t) (q : t σ H Q) : tSem X e σ H Q := fun pins s I => h.run pins s σ H Q I q
theorem semA_of {t : TA} {Q : List V → Hp → Prop} (h : PA X es t) (q : t σ H Q) : tSemA X es σ H Q := fun pos pins s I => h.run pos pins s σ H Q I q
theorem semT_of {t : TT} {Q : Bool → Hp → Prop} (h : PT X e t) (q : t σ H Q) : tSemT X e σ H Q := fun pins s I => h.run pins s σ H Q I q
theorem semW_of {t : TT} {Q : Bool → Hp → Prop} (h : PW X e t) (q : t σ H Q) : tSemW X e σ H Q := fun wh pins s I => h.run wh pins s σ H Q I q
theorem semS_of {t : TS} {D : Ends} (h : PS X st t) (q : t D σ H) : tSemS X st D σ H := fun pins s I => h.run pins s σ H D I q
theorem semSs_of {t : TS} {D : Ends} (h : PSs X sts t) (q : t D σ H) : tSemSs X sts D σ H := fun pins s I => h.run pins s σ H D I q
theorem rsem_of {f : Value → Value → Sem Value} {r : R2} {x y : V} {Q : VK} (h : OpR X f r) (q : r x y H Q) : rSem X f x y H Q := fun pins s σ v u I rx ry => h pins s σ H x y v u Q I rx ry q
theorem usem_of {f : Value → Sem Value} {r : V → Hp → VK → Prop} {x : V} {Q : VK} (h : UnR X f r) (q : r x H Q) : uSem X f x H Q := fun pins s σ v I rx => h pins s σ H x v Q I rx q
theorem csem_of {f : Value} {r : List V → Hp → VK → Prop} {xs : List V} {Q : VK} (h : CallR X f r) (q : r xs H Q) : cSem X f xs H Q := fun pins s σ us I rx => h pins s σ H xs us Q I rx q
theorem sem_mono {Q Q' : VK} (h : tSem X e σ H Q) (k : ∀ v H', Q v H' → Q' v H') : tSem X e σ H Q' := fun pins s I => thn (h pins s I) fun _ _ ⟨v, H', I', r, q⟩ => ⟨v, H', I', r, k _ _ q⟩
theorem semA_mono {Q Q' : List V → Hp → Prop} (h : tSemA X es σ H Q) (k : ∀ v H', Q v H' → Q' v H') : tSemA X es σ H Q' := fun pos pins s I => thn (h pos pins s I) fun _ _ ⟨v, H', I', r, q⟩ => ⟨v, H', I', r, k _ _ q⟩
theorem semT_mono {Q Q' : Bool → Hp → Prop} (h : tSemT X e σ H Q) (k : ∀ v H', Q v H' → Q' v H') : tSemT X e σ H Q' := fun pins s I => thn (h pins s I) fun _ _ ⟨H', I', q⟩ => ⟨H', I', k _ _ q⟩
theorem semW_mono {Q Q' : Bool → Hp → Prop} (h : tSemW X e σ H Q) (k : ∀ v H', Q v H' → Q' v H') : tSemW X e σ H Q' := fun wh pins s I => thn (h wh pins s I) fun _ _ ⟨H', I', q⟩ => ⟨H', I', k _ _ q⟩
theorem rsem_mono {f : Value → Value → Sem Value} {x y : V} {Q Q' : VK} (h : rSem X f x y H Q) (k : ∀ v H', Q v H' → Q' v H') : rSem X f x y H Q' := fun pins s σ v u I rx ry => thn (h pins s σ v u I rx ry) fun _ _ ⟨v, H', I', r, q⟩ => ⟨v, H', I', r, k _ _ q⟩
structure EndsLe (D D' : Ends) : Prop where
  nx : ∀ σ H, D.nx σ H → D'.nx σ H
  rt : ∀ v H, D.rt v H → D'.rt v H
  bk : ∀ σ H, D.bk σ H → D'.bk σ H
  ct : ∀ σ H, D.ct σ H → D'.ct σ H
theorem sp_mono {pins : List (Addr × Obj)} {D D' : Ends} {f : Flow} {s : Shared} (k : EndsLe D D') (h : SP X pins D f s) : SP X pins D' f s := by
  cases f with
  | next => obtain ⟨a, b, I, q⟩ := h; exact ⟨a, b, I, k.nx _ _ q⟩
  | brk => obtain ⟨a, b, I, q⟩ := h; exact ⟨a, b, I, k.bk _ _ q⟩
  | cont => obtain ⟨a, b, I, q⟩ := h; exact ⟨a, b, I, k.ct _ _ q⟩
  | ret u => obtain ⟨v, a, b, I, r, q⟩ := h; exact ⟨v, a, b, I, r, k.rt _ _ q⟩
theorem semS_mono {D D' : Ends} (h : tSemS X st D σ H) (k : EndsLe D D') : tSemS X st D' σ H := fun pins s I => thn (h pins s I) fun _ _ q => sp_mono k q
theorem semSs_mono {D D' : Ends} (h : tSemSs X sts D σ H) (k : EndsLe D D') : tSemSs X sts D' σ H := fun pins s I => thn (h pins s I) fun _ _ q => sp_mono k q
end

/-! ### what an expression, a test, an argument list comes to, in data -/
def PostE (K : PySem.W.Frag) (g : Cl) (Fr : Hp) (σ : L2.St) (H0 : Hp) (R : Dt → List Slot → Prop) : VK := fun v H' => ∃ d S' H0', Ex H0 H0' ∧ StR K g Fr H0' H' σ S' ∧ Rep K g H0' v d ∧ R d S'
def PostT (K : PySem.W.Frag) (g : Cl) (Fr : Hp) (σ : L2.St) (H0 : Hp) (R : Bool → List Slot → Prop) : Bool → Hp → Prop := fun b H' => ∃ S' H0', Ex H0 H0' ∧ StR K g Fr H0' H' σ S' ∧ R b S'
inductive ArgR (K : PySem.W.Frag) (g : Cl) (H0 : Hp) (S : List Slot) : List V → List Slot → Prop
  | nil : ArgR K g H0 S [] []
  | im {v : V} {d : Dt} {vs : List V} {ss : List Slot} : Rep K g H0 v d → ArgR K g H0 S vs ss → ArgR K g H0 S (v :: vs) (.im d :: ss)
  | own {p : Addr} {o : OD} {vs : List V} {ss : List Slot} : Slot.own p o ∈ S → ArgR K g H0 S vs ss → ArgR K g H0 S (.ref p :: vs) (.own p o :: ss)
def PostA (K : PySem.W.Frag) (g : Cl) (Fr : Hp) (σ : L2.St) (H0 : Hp) (R : List Slot → List Slot → Prop) : List V → Hp → Prop := fun vs H' => ∃ ss S' H0', Ex H0 H0' ∧ StR K g Fr H0' H' σ S' ∧ ArgR K g H0' S' vs ss ∧ R ss S'
/-- a value that the next name alone will hold, or a datum -/
def PostF (K : PySem.W.Frag) (g : Cl) (Fr : Hp) (σ : L2.St) (H0 : Hp) (R : Slot → List Slot → Prop) : VK := fun v H' => ∃ r S' H0', Ex H0 H0' ∧ StR K g Fr H0' H' (σ ++ [some v]) (S' ++ [r]) ∧ R r S'
section
variable (X : Cx) (g : Cl) (Fr : Hp)
def EW (e : Expr) (S : List Slot) (R : Dt → List Slot → Prop) : Prop := ∀ σ H0 H, StR X.K g Fr H0 H σ S → tSem X e σ H (PostE X.K g Fr σ H0 R)
def EF (e : Expr) (S : List Slot) (R : Slot → List Slot → Prop) : Prop := ∀ σ H0 H, StR X.K g Fr H0 H σ S → tSem X e σ H (PostF X.K g Fr σ H0 R)
def AW (es : List Expr) (S : List Slot) (R : List Slot → List Slot → Prop) : Prop := ∀ σ H0 H, StR X.K g Fr H0 H σ S → tSemA X es σ H (PostA X.K g Fr σ H0 R)
def TW (e : Expr) (S : List Slot) (R : Bool → List Slot → Prop) : Prop := ∀ σ H0 H, StR X.K g Fr H0 H σ S → tSemT X e σ H (PostT X.K g Fr σ H0 R)
def WW (e : Expr) (S : List Slot) (R : Bool → List Slot → Prop) : Prop := ∀ σ H0 H, StR X.K g Fr H0 H σ S → tSemW X e σ H (PostT X.K g Fr σ H0 R)
/-- an operation on two data -/
def OpW (f : Value → Value → Sem Value) (d1 d2 : Dt) (S : List Slot) (R : Dt → List Slot → Prop) : Prop := ∀ σ H0 H v1 v2, StR X.K g Fr H0 H σ S → Rep X.K g H0 v1 d1 → Rep X.K g H0 v2 d2 → rSem X f v1 v2 H (PostE X.K g Fr σ H0 R)
/-- a built-in called with arguments -/
def CW (f : Value) (ss : List Slot) (S : List Slot) (R : Dt → List Slot → Prop) : Prop := ∀ σ H0 H vs, StR X.K g Fr H0 H σ S → ArgR X.K g H0 S vs ss → cSem X f vs H (PostE X.K g Fr σ H0 R)
end
section
variable {K : PySem.W.Frag} {g : Cl} {Fr : Hp} {σ : L2.St} {H0 H1 H : Hp} {v : V}
theorem PostE.back {R : Dt → List Slot → Prop} (e : Ex H0 H1) (h : PostE K g Fr σ H1 R v H) : PostE K g Fr σ H0 R v H := by
  obtain ⟨d, S', H2, e2, r⟩ := h
  exact ⟨d, S', H2, e.trans e2, r⟩
theorem PostF.back {R : Slot → List Slot → Prop} (e : Ex H0 H1) (h : PostF K g Fr σ H1 R v H) : PostF K g Fr σ H0 R v H := by
  obtain ⟨d, S', H2, e2, r⟩ := h
  exact ⟨d, S', H2, e.trans e2, r⟩
theorem PostA.back {R : List Slot → List Slot → Prop} {vs : List V} (e : Ex H0 H1) (h : PostA K g Fr σ H1 R vs H) : PostA K g Fr σ H0 R vs H := by
  obtain ⟨d, S', H2, e2, r⟩ := h
  exact ⟨d, S', H2, e.trans e2, r⟩
theorem PostT.back {R : Bool → List Slot → Prop} {b : Bool} (e : Ex H0 H1) (h : PostT K g Fr σ H1 R b H) : PostT K g Fr σ H0 R b H := by
  obtain ⟨S', H2, e2, r⟩ := h
  exact ⟨S', H2, e.trans e2, r⟩
theorem ArgR.mono {S : List Slot} (e : Ex H0 H1) : ∀ {vs : List V} {ss : List Slot}, ArgR K g H0 S vs ss → ArgR K g H1 S vs ss
  | _, _, .nil => .nil
  | _, _, .im r t => .im (r.mono e) (t.mono e)
  | _, _, .own m t => .own m (t.mono e)
theorem SlR.at {S : List Slot} {i : Nat} {d : Dt} (st : StR K g Fr H0 H σ S) (h : S[i]? = some (.im d)) : ∃ v, σ[i]? = some (some v) ∧ Rep K g H0 v d := st.sl i _ h
theorem StR.own_at {S : List Slot} {i : Nat} {p : Addr} {o : OD} (st : StR K g Fr H0 H σ S) (h : S[i]? = some (.own p o)) : σ[i]? = some (some (.ref p)) ∧ OwR K g H0 H p o := st.sl i _ h
/-- the whole of the extended state from a datum -/
theorem StR.snoc_im {S : List Slot} {d : Dt} (st : StR K g Fr H0 H σ S) (r : Rep K g H0 v d) : StR K g Fr H0 H (σ ++ [some v]) (S ++ [.im d]) := by
  refine ⟨st.ex, st.fr, st.dis, by simp [st.len], fun i s h => ?_, by simpa [Slot.fp] using st.nd, fun a ha => st.free a (by simpa [Slot.fp] using ha)⟩
  by_cases hi : i < S.length
  · rw [List.getElem?_append_left hi] at h
    rw [List.getElem?_append_left (by rw [st.len]; exact hi)]
    exact st.sl i s h
  · rw [List.getElem?_append_right (by omega)] at h
    have e : i - S.length = 0 := by
      cases q : i - S.length with
      | zero => rfl
      | succ n => rw [q] at h; simp at h
    rw [e] at h
    simp at h
    subst h
    rw [List.getElem?_append_right (by rw [st.len]; omega), st.len, e]
    exact ⟨v, rfl, r⟩
/-- a fresh object joins -/
theorem StR.snoc_own {S : List Slot} {p : Addr} {o : OD} (st : StR K g Fr H0 H σ S) (h : OwR K g H0 H p o) (hf : ∀ a ∈ o.fp p, H0 a = none ∧ Fr a = none ∧ a ∉ S.flatMap Slot.fp) (hn : (o.fp p).Nodup) :
    StR K g Fr H0 H (σ ++ [some (.ref p)]) (S ++ [.own p o]) := by
  refine ⟨st.ex, st.fr, st.dis, by simp [st.len], fun i s h => ?_, ?_, fun a ha => ?_⟩
  · by_cases hi : i < S.length
    · rw [List.getElem?_append_left hi] at h
      rw [List.getElem?_append_left (by rw [st.len]; exact hi)]
      exact st.sl i s h
    · rw [List.getElem?_append_right (by omega)] at h
      have e : i - S.length = 0 := by
        cases q : i - S.length with
        | zero => rfl
        | succ n => rw [q] at h; simp at h
      rw [e] at h
      simp at h
      subst h
      rw [List.getElem?_append_right (by rw [st.len]; omega), st.len, e]
      exact ⟨rfl, by assumption⟩
  · rw [List.flatMap_append]
    refine List.nodup_append.mpr ⟨st.nd, by simpa [Slot.fp] using hn, fun a ha b hb e => ?_⟩
    subst e
    exact (hf a (by simpa [Slot.fp] using hb)).2.2 ha
  · rw [List.flatMap_append] at ha
    rcases List.mem_append.mp ha with ha | ha
    · exact st.free a ha
    · have := hf a (by simpa [Slot.fp] using ha); exact ⟨this.1, this.2.1⟩
/-- the joined slot taken over by a name -/
theorem StR.take {S : List Slot} {i : Nat} {s : Slot} (st : StR K g Fr H0 H (σ ++ [some v]) (S ++ [s])) (hi : i < S.length) : StR K g Fr H0 H (σ.set i (some v)) (S.set i s) := by
  have hl : σ.length = S.length := by have := st.len; simpa using this
  have hv : SlR K g H0 H (some (some v)) s := by
    have := st.sl S.length s (by simp)
    rw [List.getElem?_append_right (by omega)] at this
    simpa [hl] using this
  have hfp : ∀ a, a ∈ (S.set i s).flatMap Slot.fp → a ∈ (S ++ [s]).flatMap Slot.fp := fun a ha => by
    obtain ⟨t, ht, m⟩ := List.mem_flatMap.mp ha
    rcases List.mem_or_eq_of_mem_set ht with h | h
    · exact List.mem_flatMap.mpr ⟨t, List.mem_append_left _ h, m⟩
    · subst h; exact List.mem_flatMap.mpr ⟨t, by simp, m⟩
  refine ⟨st.ex, st.fr, st.dis, by simp [hl], fun j t h => ?_, ?_, fun a ha => st.free a (hfp a ha)⟩
  · by_cases e : i = j
    · subst e
      rw [List.getElem?_set_self hi] at h
      cases h
      rw [List.getElem?_set_self (by omega)]
      exact hv
    · rw [List.getElem?_set_ne e] at h ⊢
      have hj : j < S.length := (List.getElem?_eq_some_iff.mp h).1
      have := st.sl j t (by rw [List.getElem?_append_left hj]; exact h)
      rwa [List.getElem?_append_left (by omega)] at this
  · have nd := st.nd
    rw [List.flatMap_append] at nd
    have : ∀ (S : List Slot) (i : Nat), (S.flatMap Slot.fp ++ [s].flatMap Slot.fp).Nodup → ((S.set i s).flatMap Slot.fp).Nodup := by
      intro S
      induction S with
      | nil => intro i h; simp
      | cons t r ih =>
        intro i h
        rw [List.flatMap_cons, List.append_assoc] at h
        obtain ⟨h1, h2, h3⟩ := List.nodup_append.mp h
        cases i with
        | zero =>
          rw [List.set_cons_zero, List.flatMap_cons]
          obtain ⟨q1, q2, q3⟩ := List.nodup_append.mp h2
          simp at q2
          exact List.nodup_append.mpr ⟨q2, q1, fun a ha b hb e => q3 b hb a (by simpa using ha) e.symm⟩
        | succ i =>
          rw [List.set_cons_succ, List.flatMap_cons]
          refine List.nodup_append.mpr ⟨h1, ih i h2, fun a ha b hb e => ?_⟩
          subst e
          obtain ⟨u, hu, m⟩ := List.mem_flatMap.mp hb
          rcases List.mem_or_eq_of_mem_set hu with q | q
          · exact h3 a ha a (List.mem_append_left _ (List.mem_flatMap.mpr ⟨u, q, m⟩)) rfl
          · subst q; exact h3 a ha a (List.mem_append_right _ (by simpa using m)) rfl
    exact this S i nd
end

/-! ### names, constants -/
section
variable {X : Cx} {g : Cl} {Fr : Hp} {S : List Slot} {R : Dt → List Slot → Prop} {pos : Pos}
theorem ew_of {e : Expr} {t : TE} (h : PE X e t) (q : ∀ σ H0 H, StR X.K g Fr H0 H σ S → t σ H (PostE X.K g Fr σ H0 R)) : EW X g Fr e S R := fun σ H0 H st => sem_of h (q σ H0 H st)
theorem ew_name (i : Nat) {d : Dt} {x : Str} (hS : S[i]? = some (.im d)) (h : R d S) (hN : X.N[i]? = some x := by rfl) (hv : Vis X.env.scope x := by first | exact Or.inl rfl | exact Or.inr (Or.inl rfl) | exact Or.inr (Or.inr rfl))
    (hd : (x == ("__debug__" : Str)) = false := by decide) (hcd : (x == ("__classdict__" : Str)) = false := by decide) : EW X g Fr (.Name x pos) S R :=
  ew_of (pe_var hN hv hd hcd) fun σ H0 H st => by
    obtain ⟨v, e, r⟩ := SlR.at st hS
    exact ⟨v, e, d, S, H0, Ex.refl _, st, r, h⟩
theorem ew_int {i : Int} {j} (h : R (.int i) S) : EW X g Fr (.Constant (.int i) j pos) S R := ew_of pe_int fun _ H0 _ st => ⟨_, S, H0, Ex.refl _, st, .int i, h⟩
theorem ew_bl {i : Bool} {j} (h : R (.bl i) S) : EW X g Fr (.Constant (.bool i) j pos) S R := ew_of pe_bl fun _ H0 _ st => ⟨_, S, H0, Ex.refl _, st, .bl i, h⟩
theorem ew_non {j} (h : R .non S) : EW X g Fr (.Constant .none j pos) S R := ew_of pe_non fun _ H0 _ st => ⟨_, S, H0, Ex.refl _, st, .non, h⟩
theorem ew_str {x : Str} {j} (h : R (.str x) S) : EW X g Fr (.Constant (.str x) j pos) S R := ew_of pe_str fun _ H0 _ st => ⟨_, S, H0, Ex.refl _, st, .str x, h⟩
theorem ew_globI {i : Int} {t : Tok} {x : Str} (hm : X.mg x = some (.int i t)) (h : R (.int i) S) (hg : Gl X x := by rfl) (hd : (x == ("__debug__" : Str)) = false := by decide) : EW X g Fr (.Name x pos) S R :=
  ew_of (pe_glob (v := .int i) hg hm ⟨t, rfl⟩ hd) fun _ H0 _ st => ⟨_, S, H0, Ex.refl _, st, .int i, h⟩
/-! ### operators -/
theorem ew_bin {a b : Expr} {op : Operator} (h : EW X g Fr a S fun d1 S1 => EW X g Fr b S1 fun d2 S2 => OpW X g Fr (binaryOp op) d1 d2 S2 R) : EW X g Fr (.BinOp a op b pos) S R :=
  ew_of (pe_op op_sem pe_sem pe_sem) fun σ H0 H st => sem_mono (h σ H0 H st) fun v1 H1 ⟨d1, S1, H01, e1, st1, r1, h1⟩ => sem_mono (h1 σ H01 H1 st1) fun v2 H2 ⟨d2, S2, H02, e2, st2, r2, h2⟩ =>
    rsem_mono (h2 σ H02 H2 v1 v2 st2 (r1.mono e2) r2) fun v H' q => q.back (e1.trans e2)
theorem ew_cmp {a b : Expr} {op : CmpOp} (h : EW X g Fr a S fun d1 S1 => EW X g Fr b S1 fun d2 S2 => OpW X g Fr (compareOp op) d1 d2 S2 R) (hm : behindInMarks op b = false := by first | exact nomark _ | rfl) : EW X g Fr (.Compare a [op] [b] pos) S R :=
  ew_of (pe_cmpR op_sem pe_sem pe_sem hm) fun σ H0 H st => sem_mono (h σ H0 H st) fun v1 H1 ⟨d1, S1, H01, e1, st1, r1, h1⟩ => sem_mono (h1 σ H01 H1 st1) fun v2 H2 ⟨d2, S2, H02, e2, st2, r2, h2⟩ =>
    rsem_mono (h2 σ H02 H2 v1 v2 st2 (r1.mono e2) r2) fun v H' q => q.back (e1.trans e2)
theorem ew_chain {a b c : Expr} {op op' : CmpOp} (h : EW X g Fr a S fun d1 S1 => EW X g Fr b S1 fun d2 S2 => OpW X g Fr (compareOp op) d1 d2 S2 fun d S3 => ∃ k, d = .bl k ∧ (k = true → EW X g Fr c S3 fun d3 S4 => OpW X g Fr (compareOp op') d2 d3 S4 R) ∧ (k = false → R (.bl false) S3))
    (hm : lastMarks [op, op'] [b, c] = false := by rfl) : EW X g Fr (.Compare a [op, op'] [b, c] pos) S R :=
  ew_of (pe_chain op_sem op_sem pe_sem pe_sem pe_sem hm) fun σ H0 H st => sem_mono (h σ H0 H st) fun v1 H1 ⟨d1, S1, H01, e1, st1, r1, h1⟩ => sem_mono (h1 σ H01 H1 st1) fun v2 H2 ⟨d2, S2, H02, e2, st2, r2, h2⟩ =>
    rsem_mono (h2 σ H02 H2 v1 v2 st2 (r1.mono e2) r2) fun v H' ⟨d, S3, H03, e3, st3, r3, k, ek, ht, hf⟩ => by
      subst ek
      cases r3
      refine ⟨k, rfl, ?_⟩
      cases k with
      | true =>
        rw [if_pos rfl]
        exact sem_mono (ht rfl σ H03 H' st3) fun v4 H4 ⟨d4, S4, H04, e4, st4, r4, h4⟩ => rsem_mono (h4 σ H04 H4 v2 v4 st4 (r2.mono (e3.trans e4)) r4) fun v5 H5 q => q.back (((e1.trans e2).trans e3).trans e4)
      | false =>
        rw [if_neg Bool.false_ne_true]
        exact ⟨_, S3, H03, (e1.trans e2).trans e3, st3, .bl false, hf rfl⟩
theorem ew_neg {a : Expr} {op : UnaryOp} {r : V → Hp → VK → Prop} (ho : UnR X (unaryOp op) r) (h : EW X g Fr a S fun d S1 => ∀ σ H0 H v, StR X.K g Fr H0 H σ S1 → Rep X.K g H0 v d → r v H (PostE X.K g Fr σ H0 R)) : EW X g Fr (.UnaryOp op a pos) S R :=
  ew_of (pe_un un_sem pe_sem) fun σ H0 H st => sem_mono (h σ H0 H st) fun v1 H1 ⟨d1, S1, H01, e1, st1, r1, h1⟩ => fun pins s σ' v I rx =>
    thn (usem_of ho (h1 σ H01 H1 v1 st1 r1) pins s σ' v I rx) fun _ _ ⟨v', H', I', r', q⟩ => ⟨v', H', I', r', q.back e1⟩
theorem ew_minus {a : Expr} (h : EW X g Fr a S fun d S1 => ∃ i, d = .int i ∧ R (.int (-i)) S1) : EW X g Fr (.UnaryOp .USub a pos) S R :=
  ew_neg un_neg (fun σ H0 H st => sem_mono (h σ H0 H st) fun v H1 ⟨d, S1, H01, e1, st1, r1, i, ei, q⟩ => ⟨d, S1, H01, e1, st1, r1, fun σ2 H2 H3 v2 st2 r2 => by subst ei; cases r2; exact ⟨i, rfl, _, S1, H2, Ex.refl _, st2, .int _, q⟩⟩)
/-! ### and, or, not, if as values -/
theorem ew_one {a : Expr} {op} (h : EW X g Fr a S R) : EW X g Fr (.BoolOp op [a] pos) S R := ew_of (pe_one pe_sem) fun σ H0 H st => h σ H0 H st
theorem ew_and {a b : Expr} {rest : List Expr} (h : EW X g Fr a S fun d S1 => ∃ k, d = .bl k ∧ (k = true → EW X g Fr (.BoolOp .And (b :: rest) pos) S1 R) ∧ (k = false → R (.bl false) S1)) : EW X g Fr (.BoolOp .And (a :: b :: rest) pos) S R :=
  ew_of (pe_and pe_sem pe_sem) fun σ H0 H st => sem_mono (h σ H0 H st) fun v1 H1 ⟨d1, S1, H01, e1, st1, r1, k, ek, ht, hf⟩ => by
    subst ek
    cases r1
    refine ⟨k, rfl, ?_⟩
    cases k with
    | true => exact sem_mono (ht rfl σ H01 H1 st1) fun v H' q => q.back e1
    | false => exact ⟨_, S1, H01, e1, st1, .bl false, hf rfl⟩
theorem ew_or {a b : Expr} {rest : List Expr} (h : EW X g Fr a S fun d S1 => ∃ k, d = .bl k ∧ (k = true → R (.bl true) S1) ∧ (k = false → EW X g Fr (.BoolOp .Or (b :: rest) pos) S1 R)) : EW X g Fr (.BoolOp .Or (a :: b :: rest) pos) S R :=
  ew_of (pe_or pe_sem pe_sem) fun σ H0 H st => sem_mono (h σ H0 H st) fun v1 H1 ⟨d1, S1, H01, e1, st1, r1, k, ek, ht, hf⟩ => by
    subst ek
    cases r1
    refine ⟨k, rfl, ?_⟩
    cases k with
    | false => exact sem_mono (hf rfl σ H01 H1 st1) fun v H' q => q.back e1
    | true => exact ⟨_, S1, H01, e1, st1, .bl true, ht rfl⟩
theorem ew_not {a : Expr} (h : EW X g Fr a S fun d S1 => ∃ k, d = .bl k ∧ R (.bl (!k)) S1) : EW X g Fr (.UnaryOp .Not a pos) S R :=
  ew_of (pe_not pe_sem) fun σ H0 H st => sem_mono (h σ H0 H st) fun v1 H1 ⟨d1, S1, H01, e1, st1, r1, k, ek, q⟩ => by
    subst ek
    cases r1
    exact ⟨k, rfl, _, S1, H01, e1, st1, .bl _, q⟩
theorem ew_if {c a b : Expr} (h : TW X g Fr c S fun k S1 => (k = true → EW X g Fr a S1 R) ∧ (k = false → EW X g Fr b S1 R)) : EW X g Fr (.IfExp c a b pos) S R :=
  ew_of (pe_ifExp pt_sem pe_sem pe_sem) fun σ H0 H st => semT_mono (h σ H0 H st) fun k H1 ⟨S1, H01, e1, st1, ht, hf⟩ => by
    cases k with
    | true => exact sem_mono (ht rfl σ H01 H1 st1) fun v H' q => q.back e1
    | false => exact sem_mono (hf rfl σ H01 H1 st1) fun v H' q => q.back e1
/-! ### tests -/
variable {T : Bool → List Slot → Prop}
theorem tw_of {e : Expr} {t : TT} (h : PT X e t) (q : ∀ σ H0 H, StR X.K g Fr H0 H σ S → t σ H (PostT X.K g Fr σ H0 T)) : TW X g Fr e S T := fun σ H0 H st => semT_of h (q σ H0 H st)
theorem tw_val {e : Expr} (h : EW X g Fr e S fun d S1 => ∃ k, d = .bl k ∧ T k S1) (he : ∀ whole, isTrue e X.env whole = (do let v ← whole; standAt e.pos; holding [v] (truthy v)) := by intro _; rfl) : TW X g Fr e S T :=
  tw_of (pt_val pe_sem he) fun σ H0 H st => sem_mono (h σ H0 H st) fun v1 H1 ⟨d1, S1, H01, e1, st1, r1, k, ek, q⟩ => by
    subst ek
    cases r1
    exact ⟨k, rfl, S1, H01, e1, st1, q⟩
theorem tw_cmp {a b : Expr} {op : CmpOp} (h : EW X g Fr a S fun d1 S1 => EW X g Fr b S1 fun d2 S2 => OpW X g Fr (compareOp op) d1 d2 S2 fun d S3 => ∃ k, d = .bl k ∧ T k S3) (hm : behindInMarks op b = false := by first | exact nomark _ | rfl) : TW X g Fr (.Compare a [op] [b] pos) S T :=
  tw_of (pt_cmpR op_sem pe_sem pe_sem hm) fun σ H0 H st => sem_mono (h σ H0 H st) fun v1 H1 ⟨d1, S1, H01, e1, st1, r1, h1⟩ => sem_mono (h1 σ H01 H1 st1) fun v2 H2 ⟨d2, S2, H02, e2, st2, r2, h2⟩ =>
    rsem_mono (h2 σ H02 H2 v1 v2 st2 (r1.mono e2) r2) fun v H' ⟨d, S3, H03, e3, st3, r3, k, ek, q⟩ => by
      subst ek
      cases r3
      exact ⟨k, rfl, S3, H03, (e1.trans e2).trans e3, st3, q⟩
theorem tw_not {a : Expr} (h : TW X g Fr a S fun k S1 => T (!k) S1) : TW X g Fr (.UnaryOp .Not a pos) S T :=
  tw_of (pt_not pt_sem) fun σ H0 H st => semT_mono (h σ H0 H st) fun k H1 ⟨S1, H01, e1, st1, q⟩ => ⟨S1, H01, e1, st1, q⟩
theorem tw_w {e : Expr} (h : WW X g Fr e S T) : TW X g Fr e S T := fun σ H0 H st pins s I => h σ H0 H st _ pins s I
theorem ww_one {a : Expr} {op} (h : TW X g Fr a S T) (hop : op = BoolOp.And ∨ op = BoolOp.Or := by first | exact .inl rfl | exact .inr rfl) : WW X g Fr (.BoolOp op [a] pos) S T := by
  rcases hop with e | e <;> subst e
  · exact fun σ H0 H st => semW_of (pw_and1 pt_sem) (h σ H0 H st)
  · exact fun σ H0 H st => semW_of (pw_or1 pt_sem) (h σ H0 H st)
theorem ww_and {a b : Expr} {rest : List Expr} (h : TW X g Fr a S fun k S1 => (k = true → WW X g Fr (.BoolOp .And (b :: rest) pos) S1 T) ∧ (k = false → T false S1)) : WW X g Fr (.BoolOp .And (a :: b :: rest) pos) S T :=
  fun σ H0 H st => semW_of (pw_and pt_sem pw_sem) (semT_mono (h σ H0 H st) fun k H1 ⟨S1, H01, e1, st1, ht, hf⟩ => by
    cases k with
    | true => rw [if_pos rfl]; exact semW_mono (ht rfl σ H01 H1 st1) fun b H' q => q.back e1
    | false => rw [if_neg Bool.false_ne_true]; exact ⟨S1, H01, e1, st1, hf rfl⟩)
theorem ww_or {a b : Expr} {rest : List Expr} (h : TW X g Fr a S fun k S1 => (k = true → T true S1) ∧ (k = false → WW X g Fr (.BoolOp .Or (b :: rest) pos) S1 T)) : WW X g Fr (.BoolOp .Or (a :: b :: rest) pos) S T :=
  fun σ H0 H st => semW_of (pw_or pt_sem pw_sem) (semT_mono (h σ H0 H st) fun k H1 ⟨S1, H01, e1, st1, ht, hf⟩ => by
    cases k with
    | true => rw [if_pos rfl]; exact ⟨S1, H01, e1, st1, ht rfl⟩
    | false => rw [if_neg Bool.false_ne_true]; exact semW_mono (hf rfl σ H01 H1 st1) fun b H' q => q.back e1)
/-! ### arguments, displays -/
variable {A : List Slot → List Slot → Prop}
theorem aw_nil (h : A [] S) : AW X g Fr [] S A := fun σ H0 H st => semA_of pa_nil ⟨[], S, H0, Ex.refl _, st, .nil, h⟩
theorem aw_im {e : Expr} {es : List Expr} (h : EW X g Fr e S fun d S1 => AW X g Fr es S1 fun ss S2 => A (.im d :: ss) S2) (hs : starEach (e :: es) X.env = (false, eval e X.env) :: starEach es X.env := by rfl) : AW X g Fr (e :: es) S A :=
  fun σ H0 H st => semA_of (pa_cons pe_sem pa_sem hs) (sem_mono (h σ H0 H st) fun v1 H1 ⟨d1, S1, H01, e1, st1, r1, h1⟩ => semA_mono (h1 σ H01 H1 st1) fun vs H2 ⟨ss, S2, H02, e2, st2, r2, h2⟩ =>
    ⟨.im d1 :: ss, S2, H02, e1.trans e2, st2, .im (r1.mono e2) r2, h2⟩)
theorem aw_own (i : Nat) {x : Str} {p : Addr} {o : OD} {es : List Expr} {xp : Pos} (hS : S[i]? = some (.own p o)) (h : AW X g Fr es S fun ss S2 => ∃ o', S2[i]? = some (.own p o') ∧ A (.own p o' :: ss) S2)
    (hN : X.N[i]? = some x := by rfl) (hv : Vis X.env.scope x := by first | exact Or.inl rfl | exact Or.inr (Or.inl rfl) | exact Or.inr (Or.inr rfl)) (hd : (x == ("__debug__" : Str)) = false := by decide) (hcd : (x == ("__classdict__" : Str)) = false := by decide)
    (hs : starEach (.Name x xp :: es) X.env = (false, eval (.Name x xp) X.env) :: starEach es X.env := by rfl) : AW X g Fr (.Name x xp :: es) S A :=
  fun σ H0 H st => semA_of (pa_cons (pe_var hN hv hd hcd) pa_sem hs) ⟨.ref p, (st.own_at hS).1, semA_mono (h σ H0 H st) fun vs H2 ⟨ss, S2, H02, e2, st2, r2, o', ho', h2⟩ =>
    ⟨.own p o' :: ss, S2, H02, e2, st2, .own (List.mem_iff_getElem?.mpr ⟨i, ho'⟩) r2, h2⟩⟩
/-- data alone -/
def imAll : List Slot → Option (List Dt)
  | [] => some []
  | .im d :: r => (imAll r).map (d :: ·)
  | _ :: _ => none
theorem ArgR.imAll {K : PySem.W.Frag} {H0 : Hp} : ∀ {vs : List V} {ss : List Slot} {ds : List Dt}, ArgR K g H0 S vs ss → DL.imAll ss = some ds → RepL K g H0 vs ds
  | _, _, _, .nil, h => by cases h; exact .nil
  | _, _, ds, .im (d := d) (ss := ss) r t, h => by
    have h : (DL.imAll ss).map (d :: ·) = some ds := h
    cases q : DL.imAll ss with
    | none => rw [q] at h; cases h
    | some es => rw [q] at h; cases h; exact .cons r (ArgR.imAll t q)
  | _, _, _, .own _ _, h => by cases h
theorem ew_tup {es : List Expr} {x1} (h : AW X g Fr es S fun ss S1 => ∃ ds, imAll ss = some ds ∧ ds.length ≤ 10000 ∧ R (.tup ds) S1) : EW X g Fr (.Tuple es x1 pos) S R :=
  ew_of (pe_tup pa_sem) fun σ H0 H st => semA_mono (h σ H0 H st) fun vs H1 ⟨ss, S1, H01, e1, st1, ra, ds, hds, hl, q⟩ => by
    have r := ra.imAll hds
    refine ⟨by rw [r.length]; exact Nat.le_trans hl (by decide), fun p hp => ?_⟩
    have h0 : H01 p = none := st1.ex.free hp
    exact ⟨.tup ds, S1, _, e1.trans (Ex.new h0), st1.new hp, .tup upd_same (r.mono (Ex.new h0)), q⟩
theorem ew_lst {es : List Expr} (h : AW X g Fr es S fun ss S1 => ∃ ds, imAll ss = some ds ∧ ds.length ≤ 10000 ∧ R (.lst ds) S1) : EW X g Fr (.List es pos) S R :=
  ew_of (pe_lst pa_sem) fun σ H0 H st => semA_mono (h σ H0 H st) fun vs H1 ⟨ss, S1, H01, e1, st1, ra, ds, hds, hl, q⟩ => by
    have r := ra.imAll hds
    refine ⟨by rw [r.length]; exact Nat.le_trans hl (by decide), fun p hp => ?_⟩
    have h0 : H01 p = none := st1.ex.free hp
    exact ⟨.lst ds, S1, _, e1.trans (Ex.new h0), st1.new hp, .lst upd_same (r.mono (Ex.new h0)), q⟩
/-! ### fresh values -/
variable {F : Slot → List Slot → Prop}
theorem ef_ew {e : Expr} (h : EW X g Fr e S fun d S1 => F (.im d) S1) : EF X g Fr e S F := fun σ H0 H st => sem_mono (h σ H0 H st) fun v H1 ⟨d, S1, H01, e1, st1, r, q⟩ => ⟨.im d, S1, H01, e1, st1.snoc_im r, q⟩
theorem notin_fp {K : PySem.W.Frag} {σ : L2.St} {H0 H : Hp} {p : Addr} (st : StR K g Fr H0 H σ S) (hp : H p = none) : p ∉ S.flatMap Slot.fp := fun ha => by
  obtain ⟨s, hs, m⟩ := List.mem_flatMap.mp ha
  obtain ⟨i, hi⟩ := List.mem_iff_getElem?.mp hs
  have q := st.sl i s hi
  cases s with
  | no => simp [Slot.fp] at m
  | im d => simp [Slot.fp] at m
  | own p' o' => obtain ⟨u, hu⟩ := q.2.some_of m; rw [hp] at hu; cases hu
/-- a fresh tracked list -/
theorem postF_lst {K : PySem.W.Frag} {σ : L2.St} {H0 H : Hp} {p : Addr} {vs : List V} {ds : List Dt} (st : StR K g Fr H0 H σ S) (hp : H p = none) (r : RepL K g H0 vs ds) (q : F (.own p (.lst ds)) S) : PostF K g Fr σ H0 F (.ref p) (upd H p (.lst vs)) := by
  have st1 := st.grow (Ex.new (o := .lst vs) hp)
  refine ⟨.own p (.lst ds), S, H0, Ex.refl _, st1.snoc_own ⟨vs, upd_same, r⟩ (fun a ha => ?_) (by simp [OD.fp]), q⟩
  have e : a = p := by simpa [OD.fp] using ha
  subst e
  refine ⟨st.ex.free hp, ?_, notin_fp st hp⟩
  exact st.fr.free hp
theorem ef_lst {es : List Expr} (h : AW X g Fr es S fun ss S1 => ∃ ds, imAll ss = some ds ∧ ds.length ≤ 10000 ∧ ∀ p, F (.own p (.lst ds)) S1) : EF X g Fr (.List es pos) S F :=
  fun σ H0 H st => sem_of (pe_lst pa_sem) (semA_mono (h σ H0 H st) fun vs H1 ⟨ss, S1, H01, e1, st1, ra, ds, hds, hl, q⟩ => by
    have r := ra.imAll hds
    refine ⟨by rw [r.length]; exact Nat.le_trans hl (by decide), fun p hp => ?_⟩
    exact (postF_lst st1 hp r (q p)).back e1)
/-- the name's own object is handed on -/
theorem ef_own (i : Nat) {x : Str} {p : Addr} {o : OD} (hS : S[i]? = some (.own p o)) (h : F (.own p o) (S.set i .no)) (hN : X.N[i]? = some x := by rfl) (hv : Vis X.env.scope x := by first | exact Or.inl rfl | exact Or.inr (Or.inl rfl) | exact Or.inr (Or.inr rfl))
    (hd : (x == ("__debug__" : Str)) = false := by decide) (hcd : (x == ("__classdict__" : Str)) = false := by decide) : EF X g Fr (.Name x pos) S F :=
  fun σ H0 H st => sem_of (pe_var hN hv hd hcd) (by
    obtain ⟨e, r⟩ := st.own_at hS
    have hi : i < S.length := (List.getElem?_eq_some_iff.mp hS).1
    refine ⟨.ref p, e, .own p o, S.set i .no, H0, Ex.refl _, st.forget.snoc_own r (fun a ha => ?_) ?_, h⟩
    · have m : a ∈ S.flatMap Slot.fp := mem_fp (List.mem_iff_getElem?.mpr ⟨i, hS⟩) ha
      refine ⟨(st.free a m).1, (st.free a m).2, fun h2 => ?_⟩
      have : ∀ (S : List Slot) (i : Nat), S[i]? = some (.own p o) → (S.flatMap Slot.fp).Nodup → a ∉ (S.set i .no).flatMap Slot.fp := by
        intro S
        induction S with
        | nil => intro i h; simp at h
        | cons t r ih =>
          intro i h nd hm
          rw [List.flatMap_cons] at nd
          obtain ⟨n1, n2, n3⟩ := List.nodup_append.mp nd
          cases i with
          | zero =>
            simp at h
            subst h
            rw [List.set_cons_zero, List.flatMap_cons] at hm
            have hm' : a ∈ r.flatMap Slot.fp := by simpa [Slot.fp] using hm
            exact n3 a ha a hm' rfl
          | succ i =>
            rw [List.set_cons_succ, List.flatMap_cons] at hm
            have h' : r[i]? = some (.own p o) := by simpa using h
            rcases List.mem_append.mp hm with q | q
            · exact n3 a q a (mem_fp (List.mem_iff_getElem?.mpr ⟨i, h'⟩) ha) rfl
            · exact ih i h' n2 q
      exact this S i hS st.nd h2
    · have : ∀ (S : List Slot) (i : Nat), S[i]? = some (.own p o) → (S.flatMap Slot.fp).Nodup → (o.fp p).Nodup := by
        intro S
        induction S with
        | nil => intro i h; simp at h
        | cons t r ih =>
          intro i h nd
          rw [List.flatMap_cons] at nd
          obtain ⟨n1, n2, n3⟩ := List.nodup_append.mp nd
          cases i with
          | zero => simp at h; subst h; exact n1
          | succ i => exact ih i (by simpa using h) n2
      exact this S i hS st.nd)
end
end DL

set_option Elab.async false
set_option linter.all false
set_option autoImplicit false
set_option maxRecDepth 100000
set_option maxHeartbeats 2000000
/-! The data layer, third part: operations on data, built-ins. -/
namespace DL
open PySem PySem.Spec PyProof.Rows L2 PK

/-! ### data that == compares -/
mutual
def toPy : Dt → PyData
  | .non => .none
  | .bl b => .bool b
  | .int i => .int i
  | .str x => .str x
  | .lst xs => .list (toPyL xs)
  | .tup xs => .tuple (toPyL xs)
  | _ => .none
def toPyL : List Dt → List PyData
  | [] => []
  | x :: r => toPy x :: toPyL r
end
mutual
/-- plain data: no shop, no class -/
def plainD : Dt → Bool
  | .non => true
  | .bl _ => true
  | .int _ => true
  | .str x => PyData.strOk x
  | .lst xs => plainL xs
  | .tup xs => plainL xs
  | _ => false
def plainL : List Dt → Bool
  | [] => true
  | x :: r => plainD x && plainL r
end
mutual
/-- .. and no bool in it -/
def noBool : Dt → Bool
  | .non => true
  | .int _ => true
  | .str x => PyData.strOk x
  | .lst xs => noBoolL xs
  | .tup xs => noBoolL xs
  | _ => false
def noBoolL : List Dt → Bool
  | [] => true
  | x :: r => noBool x && noBoolL r
end
mutual
def depD : Dt → Nat
  | .lst xs => depL xs + 1
  | .tup xs => depL xs + 1
  | _ => 0
def depL : List Dt → Nat
  | [] => 0
  | x :: r => max (depD x) (depL r)
end
mutual
theorem noBool_plain : ∀ d : Dt, noBool d = true → plainD d = true
  | .non, _ => rfl
  | .int _, _ => rfl
  | .str x, h => h
  | .lst xs, h => by unfold plainD; exact noBoolL_plain xs (by simpa [noBool] using h)
  | .tup xs, h => by unfold plainD; exact noBoolL_plain xs (by simpa [noBool] using h)
  | .bl _, h => by simp [noBool] at h
  | .shop _, h => by simp [noBool] at h
  | .scr _, h => by simp [noBool] at h
  | .ty _, h => by simp [noBool] at h
  | .cls _, h => by simp [noBool] at h
theorem noBoolL_plain : ∀ ds : List Dt, noBoolL ds = true → plainL ds = true
  | [], _ => rfl
  | x :: r, h => by
    simp only [noBoolL, Bool.and_eq_true] at h
    simp only [plainL, Bool.and_eq_true]
    exact ⟨noBool_plain x h.1, noBoolL_plain r h.2⟩
end
mutual
theorem plain_lay : ∀ d : Dt, plainD d = true → (toPy d).canLay0 = true
  | .non, _ => rfl
  | .bl _, _ => rfl
  | .int _, _ => rfl
  | .str x, h => h
  | .lst xs, h => by unfold toPy PyData.canLay0; exact plainL_lay xs (by simpa [plainD] using h)
  | .tup xs, h => by unfold toPy PyData.canLay0; exact plainL_lay xs (by simpa [plainD] using h)
  | .shop _, h => by simp [plainD] at h
  | .scr _, h => by simp [plainD] at h
  | .ty _, h => by simp [plainD] at h
  | .cls _, h => by simp [plainD] at h
theorem plainL_lay : ∀ ds : List Dt, plainL ds = true → PyData.canLayAll0 (toPyL ds) = true
  | [], _ => rfl
  | x :: r, h => by
    simp only [plainL, Bool.and_eq_true] at h
    simp only [toPyL, PyData.canLayAll0, Bool.and_eq_true]
    exact ⟨plain_lay x h.1, plainL_lay r h.2⟩
end
mutual
theorem dep_py : ∀ d : Dt, (toPy d).depth = depD d
  | .non => rfl
  | .bl _ => rfl
  | .int _ => rfl
  | .str x => rfl
  | .lst xs => by simp only [toPy, PyData.depth, depD]; rw [depL_py xs]
  | .tup xs => by simp only [toPy, PyData.depth, depD]; rw [depL_py xs]
  | .shop _ => rfl
  | .scr _ => rfl
  | .ty _ => rfl
  | .cls _ => rfl
theorem depL_py : ∀ ds : List Dt, PyData.depthAll (toPyL ds) = depL ds
  | [] => rfl
  | x :: r => by simp only [toPyL, PyData.depthAll, depL]; rw [dep_py x, depL_py r]
end
theorem shaped_of {d : Dt} (h : plainD d = true) (hd : depD d ≤ 64) : SeqAt.shaped (toPy d) = true := by
  unfold SeqAt.shaped
  rw [plain_lay d h, dep_py d, decide_eq_true hd]
  rfl
mutual
theorem rep_dp {K : PySem.W.Frag} {g : Cl} {H : Hp} : ∀ {d : Dt} {v : V}, plainD d = true → Rep K g H v d → Dp K H v (toPy d)
  | .non, _, _, .non => .non
  | .bl _, _, _, .bl b => .bl b
  | .int _, _, _, .int i => .int i
  | .str _, _, _, .str x => .str x
  | .lst xs, _, h, .lst e r => .lst (sq_of e) (repL_dp (by simpa [plainD] using h) r)
  | .tup xs, _, h, .tup e r => .tup (st_of e) (repL_dp (by simpa [plainD] using h) r)
theorem repL_dp {K : PySem.W.Frag} {g : Cl} {H : Hp} : ∀ {ds : List Dt} {vs : List V}, plainL ds = true → RepL K g H vs ds → DpAll K H vs (toPyL ds)
  | [], _, _, .nil => .nil
  | d :: r, _, h, .cons a b => by
    simp only [plainL, Bool.and_eq_true] at h
    exact .cons (rep_dp h.1 a) (repL_dp h.2 b)
end
mutual
theorem eqv_iff : ∀ a b : Dt, noBool a = true → noBool b = true → (PyData.eqv (toPy a) (toPy b) = true ↔ a = b)
  | .non, b, _, hb => by cases b <;> simp_all [noBool, toPy, PyData.eqv]
  | .int i, b, _, hb => by cases b <;> simp_all [noBool, toPy, PyData.eqv]
  | .str x, b, _, hb => by cases b <;> simp_all [noBool, toPy, PyData.eqv]
  | .lst xs, b, ha, hb => by
    cases b with
    | lst ys =>
      have := eqvL_iff xs ys (by simpa [noBool] using ha) (by simpa [noBool] using hb)
      simp only [toPy, PyData.eqv, this, Dt.lst.injEq]
    | _ => simp_all [noBool, toPy, PyData.eqv]
  | .tup xs, b, ha, hb => by
    cases b with
    | tup ys =>
      have := eqvL_iff xs ys (by simpa [noBool] using ha) (by simpa [noBool] using hb)
      simp only [toPy, PyData.eqv, this, Dt.tup.injEq]
    | _ => simp_all [noBool, toPy, PyData.eqv]
  | .bl _, _, h, _ => by simp [noBool] at h
  | .shop _, _, h, _ => by simp [noBool] at h
  | .scr _, _, h, _ => by simp [noBool] at h
  | .ty _, _, h, _ => by simp [noBool] at h
  | .cls _, _, h, _ => by simp [noBool] at h
theorem eqvL_iff : ∀ a b : List Dt, noBoolL a = true → noBoolL b = true → (PyData.eqvAll (toPyL a) (toPyL b) = true ↔ a = b)
  | [], [], _, _ => by simp [toPyL, PyData.eqvAll]
  | [], _ :: _, _, _ => by simp [toPyL, PyData.eqvAll]
  | _ :: _, [], _, _ => by simp [toPyL, PyData.eqvAll]
  | x :: r, y :: t, ha, hb => by
    simp only [noBoolL, Bool.and_eq_true] at ha hb
    have h1 := eqv_iff x y ha.1 hb.1
    have h2 := eqvL_iff r t ha.2 hb.2
    simp only [toPyL, PyData.eqvAll, Bool.and_eq_true, h1, h2, List.cons.injEq]
end
theorem noBoolL_map {α : Type} {f : α → Dt} (h : ∀ a, noBool (f a) = true) : ∀ l : List α, noBoolL (l.map f) = true
  | [] => rfl
  | a :: r => by simp only [List.map_cons, noBoolL, h a, noBoolL_map h r, Bool.and_self]
theorem noBoolL_of : ∀ {l : List Dt}, (∀ d ∈ l, noBool d = true) → noBoolL l = true
  | [], _ => rfl
  | d :: r, h => by simp only [noBoolL, h d List.mem_cons_self, noBoolL_of (l := r) fun e he => h e (List.mem_cons_of_mem _ he), Bool.and_self]
theorem depL_le {n : Nat} : ∀ {l : List Dt}, (∀ d ∈ l, depD d ≤ n) → depL l ≤ n
  | [], _ => Nat.zero_le _
  | d :: r, h => by
    unfold depL
    exact Nat.max_le.mpr ⟨h d List.mem_cons_self, depL_le fun e he => h e (List.mem_cons_of_mem _ he)⟩
theorem depL_map {α : Type} {f : α → Dt} {n : Nat} (h : ∀ a, depD (f a) ≤ n) (l : List α) : depL (l.map f) ≤ n := depL_le fun d hd => by
  obtain ⟨a, _, e⟩ := List.mem_map.mp hd
  subst e; exact h a
/-- data that == may compare, with its plain answer -/
structure EqOk (d : Dt) : Prop where
  nb : noBool d = true
  dp : depD d ≤ 64
theorem EqOk.int {i : Int} : EqOk (.int i) := ⟨rfl, Nat.zero_le _⟩
theorem EqOk.non : EqOk .non := ⟨rfl, Nat.zero_le _⟩

/-! ### operations -/
section
variable {X : Cx} {g : Cl} {Fr : Hp} {S : List Slot} {R : Dt → List Slot → Prop} {pos : Pos} {i j : Int} {d1 d2 : Dt}
theorem ow_of {f : Value → Value → Sem Value} {r : R2} (ho : OpR X f r) (h : ∀ σ H0 H v1 v2, StR X.K g Fr H0 H σ S → Rep X.K g H0 v1 d1 → Rep X.K g H0 v2 d2 → r v1 v2 H (PostE X.K g Fr σ H0 R)) : OpW X g Fr f d1 d2 S R :=
  fun σ H0 H v1 v2 st r1 r2 => rsem_of ho (h σ H0 H v1 v2 st r1 r2)
theorem done {K : PySem.W.Frag} {σ : L2.St} {H0 H : Hp} {v : V} {d : Dt} (st : StR K g Fr H0 H σ S) (r : Rep K g H0 v d) (h : R d S) : PostE K g Fr σ H0 R v H := ⟨d, S, H0, Ex.refl _, st, r, h⟩
/-- a new object is the result -/
theorem doneN {K : PySem.W.Frag} {σ : L2.St} {H0 H : Hp} {p : Addr} {o : HO} {d : Dt} (st : StR K g Fr H0 H σ S) (hp : H p = none) (r : ∀ H1, Ex H0 H1 → H1 p = some o → Rep K g H1 (.ref p) d) (h : R d S) : PostE K g Fr σ H0 R (.ref p) (upd H p o) :=
  ⟨d, S, upd H0 p o, Ex.new (st.ex.free hp), st.new hp, r _ (Ex.new (st.ex.free hp)) upd_same, h⟩
theorem ow_addI (h : R (.int (i + j)) S) : OpW X g Fr (binaryOp .Add) (.int i) (.int j) S R := ow_of op_add fun σ H0 H v1 v2 st r1 r2 => by cases r1; cases r2; exact ⟨i, j, rfl, rfl, done st (.int _) h⟩
theorem ow_subI (h : R (.int (i - j)) S) : OpW X g Fr (binaryOp .Sub) (.int i) (.int j) S R := ow_of op_sub fun σ H0 H v1 v2 st r1 r2 => by cases r1; cases r2; exact ⟨i, j, rfl, rfl, done st (.int _) h⟩
theorem ow_mulI (hc : (-(2 ^ 64) < i ∧ i < 2 ^ 64) ∨ (-(2 ^ 64) < j ∧ j < 2 ^ 64)) (h : R (.int (i * j)) S) : OpW X g Fr (binaryOp .Mult) (.int i) (.int j) S R := ow_of op_mul fun σ H0 H v1 v2 st r1 r2 => by cases r1; cases r2; exact ⟨i, j, rfl, rfl, hc, done st (.int _) h⟩
theorem ow_divI (hc : 0 < j ∧ j < 1073741824) (h : R (.int (i / j)) S) : OpW X g Fr (binaryOp .FloorDiv) (.int i) (.int j) S R := ow_of op_fdiv fun σ H0 H v1 v2 st r1 r2 => by cases r1; cases r2; exact ⟨i, j, rfl, rfl, hc, done st (.int _) h⟩
theorem ow_modI (hc : 0 < j) (h : R (.int (i % j)) S) : OpW X g Fr (binaryOp .Mod) (.int i) (.int j) S R := ow_of op_mod fun σ H0 H v1 v2 st r1 r2 => by cases r1; cases r2; exact ⟨i, j, rfl, rfl, hc, done st (.int _) h⟩
theorem ow_powI (hc : 0 ≤ j ∧ j ≤ 1000000 ∧ i.natAbs < 2 ^ 64) (h : R (.int (i ^ j.toNat)) S) : OpW X g Fr (binaryOp .Pow) (.int i) (.int j) S R := ow_of op_pow fun σ H0 H v1 v2 st r1 r2 => by cases r1; cases r2; exact ⟨i, j, rfl, rfl, hc, done st (.int _) h⟩
theorem ow_ltI (h : R (.bl (decide (i < j))) S) : OpW X g Fr (compareOp .Lt) (.int i) (.int j) S R := ow_of op_lt fun σ H0 H v1 v2 st r1 r2 => by cases r1; cases r2; exact ⟨i, j, rfl, rfl, done st (.bl _) h⟩
theorem ow_leI (h : R (.bl (decide (i ≤ j))) S) : OpW X g Fr (compareOp .LtE) (.int i) (.int j) S R := ow_of op_le fun σ H0 H v1 v2 st r1 r2 => by cases r1; cases r2; exact ⟨i, j, rfl, rfl, done st (.bl _) h⟩
theorem ow_gtI (h : R (.bl (decide (j < i))) S) : OpW X g Fr (compareOp .Gt) (.int i) (.int j) S R := ow_of op_gt fun σ H0 H v1 v2 st r1 r2 => by cases r1; cases r2; exact ⟨i, j, rfl, rfl, done st (.bl _) h⟩
theorem ow_geI (h : R (.bl (decide (j ≤ i))) S) : OpW X g Fr (compareOp .GtE) (.int i) (.int j) S R := ow_of op_ge fun σ H0 H v1 v2 st r1 r2 => by cases r1; cases r2; exact ⟨i, j, rfl, rfl, done st (.bl _) h⟩
theorem ow_eqI (h : R (.bl (decide (i = j))) S) : OpW X g Fr (compareOp .Eq) (.int i) (.int j) S R := ow_of op_eq fun σ H0 H v1 v2 st r1 r2 => by
  cases r1; cases r2
  have e : decide (V.int i = V.int j) = decide (i = j) := by simp
  exact ⟨rfl, by rw [e]; exact done st (.bl _) h⟩
theorem ow_neI (h : R (.bl (!decide (i = j))) S) : OpW X g Fr (compareOp .NotEq) (.int i) (.int j) S R := ow_of op_ne fun σ H0 H v1 v2 st r1 r2 => by
  cases r1; cases r2
  have e : decide (V.int i = V.int j) = decide (i = j) := by simp
  exact ⟨rfl, by rw [e]; exact done st (.bl _) h⟩
theorem ow_eqB {a b : Bool} (h : R (.bl (decide (a = b))) S) : OpW X g Fr (compareOp .Eq) (.bl a) (.bl b) S R := ow_of op_eq fun σ H0 H v1 v2 st r1 r2 => by
  cases r1; cases r2
  have e : decide (V.bl a = V.bl b) = decide (a = b) := by simp
  exact ⟨rfl, by rw [e]; exact done st (.bl _) h⟩
theorem ow_neB {a b : Bool} (h : R (.bl (!decide (a = b))) S) : OpW X g Fr (compareOp .NotEq) (.bl a) (.bl b) S R := ow_of op_ne fun σ H0 H v1 v2 st r1 r2 => by
  cases r1; cases r2
  have e : decide (V.bl a = V.bl b) = decide (a = b) := by simp
  exact ⟨rfl, by rw [e]; exact done st (.bl _) h⟩
theorem ow_eqD (hu : X.A.units + 64 < cLine) (h1 : EqOk d1) (h2 : EqOk d2) (h : ∀ k : Bool, (k = true ↔ d1 = d2) → R (.bl k) S) : OpW X g Fr (compareOp .Eq) d1 d2 S R := ow_of (op_eqD hu) fun σ H0 H v1 v2 st r1 r2 =>
  ⟨toPy d1, toPy d2, rep_dp (noBool_plain _ h1.nb) (r1.mono st.ex), rep_dp (noBool_plain _ h2.nb) (r2.mono st.ex), shaped_of (noBool_plain _ h1.nb) h1.dp, shaped_of (noBool_plain _ h2.nb) h2.dp, done st (.bl _) (h _ (eqv_iff _ _ h1.nb h2.nb))⟩
theorem ow_neD (hu : X.A.units + 64 < cLine) (h1 : EqOk d1) (h2 : EqOk d2) (h : ∀ k : Bool, (k = false ↔ d1 = d2) → R (.bl k) S) : OpW X g Fr (compareOp .NotEq) d1 d2 S R := ow_of (op_neD hu) fun σ H0 H v1 v2 st r1 r2 =>
  ⟨toPy d1, toPy d2, rep_dp (noBool_plain _ h1.nb) (r1.mono st.ex), rep_dp (noBool_plain _ h2.nb) (r2.mono st.ex), shaped_of (noBool_plain _ h1.nb) h1.dp, shaped_of (noBool_plain _ h2.nb) h2.dp, done st (.bl _) (h _ (by
    have := eqv_iff _ _ h1.nb h2.nb
    rw [← this]
    cases PyData.eqv (toPy d1) (toPy d2) <;> simp))⟩
/-- is None -/
def isNon : Dt → Bool
  | .non => true
  | _ => false
theorem rep_non {K : PySem.W.Frag} {H : Hp} {v : V} {d : Dt} (r : Rep K g H v d) : decide (v = .non) = isNon d := by cases r <;> simp [isNon]
theorem ow_isN (h : R (.bl (isNon d1)) S) : OpW X g Fr (compareOp .Is) d1 .non S R := ow_of op_isN fun σ H0 H v1 v2 st r1 r2 => by
  cases r2
  exact ⟨rfl, by rw [rep_non r1]; exact done st (.bl _) h⟩
theorem ow_notN (h : R (.bl (!isNon d1)) S) : OpW X g Fr (compareOp .IsNot) d1 .non S R := ow_of op_notN fun σ H0 H v1 v2 st r1 r2 => by
  cases r2
  exact ⟨rfl, by rw [rep_non r1]; exact done st (.bl _) h⟩
theorem ow_isB {a b : Bool} (h : R (.bl (decide (a = b))) S) : OpW X g Fr (compareOp .Is) (.bl a) (.bl b) S R := ow_of op_isBl fun σ H0 H v1 v2 st r1 r2 => by cases r1; cases r2; exact ⟨a, b, rfl, rfl, done st (.bl _) h⟩
theorem ow_notB {a b : Bool} (h : R (.bl (!decide (a = b))) S) : OpW X g Fr (compareOp .IsNot) (.bl a) (.bl b) S R := ow_of op_notBl fun σ H0 H v1 v2 st r1 r2 => by cases r1; cases r2; exact ⟨a, b, rfl, rfl, done st (.bl _) h⟩
/-- tuples, lists put together -/
theorem ow_catT {xs ys : List Dt} (hl : xs.length + ys.length ≤ 100000) (h : R (.tup (xs ++ ys)) S) : OpW X g Fr (binaryOp .Add) (.tup xs) (.tup ys) S R := ow_of op_catA fun σ H0 H v1 v2 st r1 r2 => by
  cases r1 with
  | tup e1 l1 =>
    cases r2 with
    | tup e2 l2 =>
      refine ⟨_, _, _, _, rfl, rfl, st_of (st.ex _ _ e1), st_of (st.ex _ _ e2), ?_, fun z => ?_, fun z z2 => ?_, fun z z2 p hp => ?_⟩
      · rw [l1.length, l2.length]; exact Nat.le_trans hl (by decide)
      · subst z; cases l1; exact done st (.tup e2 l2) h
      · subst z2; cases l2; rw [List.append_nil] at h; exact done st (.tup e1 l1) h
      · exact doneN st hp (fun H1 ex e => .tup e ((l1.mono ex).append (l2.mono ex))) h
theorem ow_catL {xs ys : List Dt} (hl : xs.length + ys.length ≤ 100000) (h : R (.lst (xs ++ ys)) S) : OpW X g Fr (binaryOp .Add) (.lst xs) (.lst ys) S R := ow_of op_cat fun σ H0 H v1 v2 st r1 r2 => by
  cases r1 with
  | lst e1 l1 =>
    cases r2 with
    | lst e2 l2 =>
      refine ⟨_, _, _, _, rfl, rfl, st.ex _ _ e1, st.ex _ _ e2, ?_, fun p hp => ?_⟩
      · rw [l1.length, l2.length]; exact Nat.le_trans hl (by decide)
      · exact doneN st hp (fun H1 ex e => .lst e ((l1.mono ex).append (l2.mono ex))) h
theorem RepL.rep {K : PySem.W.Frag} {H : Hp} {vs : List V} {ds : List Dt} (r : RepL K g H vs ds) : ∀ n : Nat, RepL K g H (List.replicate n vs).flatten (List.replicate n ds).flatten
  | 0 => .nil
  | n + 1 => by rw [List.replicate_succ, List.replicate_succ, List.flatten_cons, List.flatten_cons]; exact r.append (RepL.rep r n)
theorem ow_repL {xs : List Dt} (hk : -(2 ^ 63) ≤ i ∧ i < 2 ^ 63) (hl : xs.length * i.toNat ≤ 100000) (h : R (.lst (List.replicate i.toNat xs).flatten) S) : OpW X g Fr (binaryOp .Mult) (.lst xs) (.int i) S R := ow_of op_rep fun σ H0 H v1 v2 st r1 r2 => by
  cases r2
  cases r1 with
  | lst e1 l1 =>
    refine ⟨_, _, _, rfl, rfl, st.ex _ _ e1, hk.1, hk.2, ?_, fun p hp => ?_⟩
    · rw [l1.length]; exact Nat.le_trans hl (by decide)
    · exact doneN st hp (fun H1 ex e => .lst e ((l1.mono ex).rep _)) h
theorem ow_repT {xs : List Dt} (hx : xs ≠ []) (hk : 2 ≤ i ∧ i ≤ 1000) (hl : xs.length ≤ 1000) (h : R (.tup (List.replicate i.toNat xs).flatten) S) : OpW X g Fr (binaryOp .Mult) (.tup xs) (.int i) S R := ow_of op_repT fun σ H0 H v1 v2 st r1 r2 => by
  cases r2
  cases r1 with
  | tup e1 l1 =>
    refine ⟨_, _, _, rfl, rfl, st_of (st.ex _ _ e1), fun z => ?_, hk.1, hk.2, by rw [l1.length]; exact hl, fun p hp => ?_⟩
    · subst z; cases l1; exact hx rfl
    · exact doneN st hp (fun H1 ex e => .tup e ((l1.mono ex).rep _)) h
/-! ### built-ins -/
theorem cw_of {f : Value} {ss : List Slot} {r : List V → Hp → VK → Prop} (hc : CallR X f r) (h : ∀ σ H0 H vs, StR X.K g Fr H0 H σ S → ArgR X.K g H0 S vs ss → r vs H (PostE X.K g Fr σ H0 R)) : CW X g Fr f ss S R := fun σ H0 H vs st ra => csem_of hc (h σ H0 H vs st ra)
theorem arg1 {K : PySem.W.Frag} {H0 : Hp} {vs : List V} {d : Dt} (r : ArgR K g H0 S vs [.im d]) : ∃ v, vs = [v] ∧ Rep K g H0 v d := by
  cases r with
  | im r t => cases t; exact ⟨_, rfl, r⟩
theorem arg2 {K : PySem.W.Frag} {H0 : Hp} {vs : List V} {d e : Dt} (r : ArgR K g H0 S vs [.im d, .im e]) : ∃ v w, vs = [v, w] ∧ Rep K g H0 v d ∧ Rep K g H0 w e := by
  cases r with
  | im r t => obtain ⟨w, rfl, q⟩ := arg1 t; exact ⟨_, w, rfl, r, q⟩
/-- the items of a list or a tuple -/
def itemsOf : Dt → Option (List Dt)
  | .lst xs => some xs
  | .tup xs => some xs
  | _ => none
theorem items_rep {K : PySem.W.Frag} {H : Hp} {v : V} {d : Dt} {xs : List Dt} (r : Rep K g H v d) (h : itemsOf d = some xs) : ∃ a vs, v = .ref a ∧ (H a = some (.lst vs) ∨ H a = some (.tup vs)) ∧ RepL K g H vs xs := by
  cases r with
  | lst e l => cases h; exact ⟨_, _, rfl, .inl e, l⟩
  | tup e l => cases h; exact ⟨_, _, rfl, .inr e, l⟩
  | _ => cases h
theorem cw_len {d : Dt} {xs : List Dt} (hx : itemsOf d = some xs) (h : R (.int xs.length) S) : CW X g Fr (.builtin "len") [.im d] S R := cw_of call_len_seq fun σ H0 H vs st ra => by
  obtain ⟨v, rfl, r⟩ := arg1 ra
  obtain ⟨a, ws, rfl, ha, l⟩ := items_rep r hx
  refine ⟨a, ws, rfl, ha.elim (fun z => .inl (sq_of (st.ex _ _ z))) (fun z => .inr (st_of (st.ex _ _ z))), ?_⟩
  rw [l.length]
  exact done st (.int _) h
theorem cw_lenS {ns : List Int} (h : R (.int ns.length) S) : CW X g Fr (.builtin "len") [.im (.scr ns)] S R := cw_of call_len_seq fun σ H0 H vs st ra => by
  obtain ⟨v, rfl, r⟩ := arg1 ra
  cases r with
  | scr e => exact ⟨_, _, rfl, .inl (ex_l st.ex e), by rw [List.length_map]; exact done st (.int _) h⟩
theorem cw_lenO {p : Addr} {xs : List Dt} (h : R (.int xs.length) S) : CW X g Fr (.builtin "len") [.own p (.lst xs)] S R := cw_of call_len_seq fun σ H0 H vs st ra => by
  cases ra with
  | own m t =>
    cases t
    obtain ⟨i, hi⟩ := List.mem_iff_getElem?.mp m
    obtain ⟨_, ws, e, l⟩ := st.own_at hi
    exact ⟨p, ws, rfl, .inl (sq_of e), by rw [l.length]; exact done st (.int _) h⟩
theorem cw_abs (h : R (.int (if i < 0 then -i else i)) S) : CW X g Fr (.builtin "abs") [.im (.int i)] S R := cw_of call_abs fun σ H0 H vs st ra => by
  obtain ⟨v, rfl, r⟩ := arg1 ra
  cases r
  exact ⟨i, rfl, done st (.int _) h⟩
theorem cw_int (h : R (.int i) S) : CW X g Fr (.type "int") [.im (.int i)] S R := cw_of call_int1 fun σ H0 H vs st ra => by
  obtain ⟨v, rfl, r⟩ := arg1 ra
  cases r
  exact .inl ⟨i, rfl, done st (.int _) h⟩
theorem cw_max2 (hc : X.calm = true) (h : R (.int (if j > i then j else i)) S) : CW X g Fr (.builtin "max") [.im (.int i), .im (.int j)] S R := cw_of (call_max2 hc) fun σ H0 H vs st ra => by
  obtain ⟨v, w, rfl, r, q⟩ := arg2 ra
  cases r; cases q
  exact ⟨i, j, rfl, done st (.int _) h⟩
theorem cw_min2 (hc : X.calm = true) (h : R (.int (if j < i then j else i)) S) : CW X g Fr (.builtin "min") [.im (.int i), .im (.int j)] S R := cw_of (call_min2 hc) fun σ H0 H vs st ra => by
  obtain ⟨v, w, rfl, r, q⟩ := arg2 ra
  cases r; cases q
  exact ⟨i, j, rfl, done st (.int _) h⟩
theorem cw_minL {ns : List Int} (hc : X.calm = true) (hn : ns ≠ []) (h : R (.int (minL ns)) S) : CW X g Fr (.builtin "min") [.im (.lst (ns.map Dt.int))] S R := cw_of (cr_min hc) fun σ H0 H vs st ra => by
  obtain ⟨v, rfl, r⟩ := arg1 ra
  cases r with
  | lst e l =>
    rw [l.ints] at e
    refine ⟨_, ns, rfl, sq_of (st.ex _ _ e), List.length_pos_iff.mpr hn, fun m hm hle => ?_⟩
    rw [← minL_eq hm hle]
    exact done st (.int _) h
theorem cw_maxL {ns : List Int} (hc : X.calm = true) (hn : ns ≠ []) (h : ∀ m, m ∈ ns → (∀ y ∈ ns, y ≤ m) → R (.int m) S) : CW X g Fr (.builtin "max") [.im (.lst (ns.map Dt.int))] S R := cw_of (cr_max hc) fun σ H0 H vs st ra => by
  obtain ⟨v, rfl, r⟩ := arg1 ra
  cases r with
  | lst e l =>
    rw [l.ints] at e
    exact ⟨_, ns, rfl, sq_of (st.ex _ _ e), List.length_pos_iff.mpr hn, fun m hm hle => done st (.int _) (h m hm hle)⟩
theorem cw_sumL {ns : List Int} (hc : X.calm = true) (h : R (.int ns.sum) S) : CW X g Fr (.builtin "sum") [.im (.lst (ns.map Dt.int))] S R := cw_of (cr_sum hc) fun σ H0 H vs st ra => by
  obtain ⟨v, rfl, r⟩ := arg1 ra
  cases r with
  | lst e l =>
    rw [l.ints] at e
    exact ⟨_, ns, rfl, sq_of (st.ex _ _ e), done st (.int _) h⟩
theorem cw_all {bs : List Bool} (hc : X.calm = true) (h : R (.bl (bs.all id)) S) : CW X g Fr (.builtin "all") [.im (.lst (bs.map Dt.bl))] S R := cw_of (cr_all hc) fun σ H0 H vs st ra => by
  obtain ⟨v, rfl, r⟩ := arg1 ra
  cases r with
  | lst e l =>
    rw [l.bools] at e
    exact ⟨_, bs, rfl, sq_of (st.ex _ _ e), done st (.bl _) h⟩
theorem cw_tupleL {xs : List Dt} (h : R (.tup xs) S) : CW X g Fr (.type "tuple") [.im (.lst xs)] S R := cw_of call_tuple_of fun σ H0 H vs st ra => by
  obtain ⟨v, rfl, r⟩ := arg1 ra
  cases r with
  | lst e l => exact ⟨_, _, rfl, .inl ⟨sq_of (st.ex _ _ e), fun p hp => doneN st hp (fun H1 ex e => .tup e (l.mono ex)) h⟩⟩
theorem cw_tupleT {xs : List Dt} (h : R (.tup xs) S) : CW X g Fr (.type "tuple") [.im (.tup xs)] S R := cw_of call_tuple_of fun σ H0 H vs st ra => by
  obtain ⟨v, rfl, r⟩ := arg1 ra
  cases r with
  | tup e l => exact ⟨_, _, rfl, .inr ⟨st_of (st.ex _ _ e), done st (.tup e l) h⟩⟩
theorem cw_tupleO {p : Addr} {xs : List Dt} (h : R (.tup xs) S) : CW X g Fr (.type "tuple") [.own p (.lst xs)] S R := cw_of call_tuple_of fun σ H0 H vs st ra => by
  cases ra with
  | own m t =>
    cases t
    obtain ⟨i, hi⟩ := List.mem_iff_getElem?.mp m
    obtain ⟨_, ws, e, l⟩ := st.own_at hi
    exact ⟨p, ws, rfl, .inl ⟨sq_of e, fun q hq => doneN st hq (fun H1 ex e => .tup e (l.mono ex)) h⟩⟩
theorem cw_listS {d : Dt} {xs : List Dt} (hx : itemsOf d = some xs) (h : R (.lst xs) S) : CW X g Fr (.type "list") [.im d] S R := cw_of call_list_of fun σ H0 H vs st ra => by
  obtain ⟨v, rfl, r⟩ := arg1 ra
  obtain ⟨a, ws, rfl, ha, l⟩ := items_rep r hx
  exact ⟨a, ws, rfl, ha.elim (fun z => .inl (sq_of (st.ex _ _ z))) (fun z => .inr (st_of (st.ex _ _ z))), fun p hp => doneN st hp (fun H1 ex e => .lst e (l.mono ex)) h⟩
/-- the type of a datum -/
def tyD (C : Addr) : Dt → Value
  | .non => .type "NoneType"
  | .bl _ => .type "bool"
  | .int _ => .type "int"
  | .str _ => .type "str"
  | .lst _ => .type "list"
  | .tup _ => .type "tuple"
  | .shop _ => .ref C
  | _ => .none
/-- what isinstance asks of an own class -/
structure IsiC (K : PySem.W.Frag) (C : Addr) : Prop where
  cl : Cls K C
  ca : PySem.W.findIn K (.ref C) "__class__" = some (some (.builtin "object.__class__"))
  cn : PySem.W.specialIn K (.builtin "object.__class__") "__get__" = some (some (.builtin "getset_descriptor.__get__"))
  ct : PySem.W.takesIn K (.builtin "object.__class__") = some true
  cm : PySem.W.mroIn K C (.type "object") = some true
theorem tyD_of {K : PySem.W.Frag} {H : Hp} {v : V} {d : Dt} (hC : IsiC K g.shop) (r : Rep K g H v d) (h : tyD g.shop d ≠ .none) : TyX K H v (tyD g.shop d) := by
  cases r with
  | non => exact .base .non
  | bl b => exact .base (.bl b)
  | int i => exact .base (.int i)
  | str x => exact .base (.str x)
  | lst e _ => exact .base (.lst e)
  | tup e _ => exact .base (.tup e)
  | shop _ e _ _ _ _ => exact .base (.ins e hC.cl hC.ca hC.cn hC.ct hC.cm)
  | scr _ => exact absurd rfl h
  | ty _ => exact absurd rfl h
  | cls _ => exact absurd rfl h
theorem cw_isT {d : Dt} {n : String} {b : Bool} (hC : IsiC X.K g.shop) (hd : tyD g.shop d ≠ .none) (hk : PySem.W.kitOne X.K (tyD g.shop d) (.type n) = some b) (h : R (.bl b) S) : CW X g Fr (.builtin "isinstance") [.im d, .im (.ty n)] S R := cw_of call_isi fun σ H0 H vs st ra => by
  obtain ⟨v, w, rfl, r, q⟩ := arg2 ra
  cases q
  exact ⟨v, _, _, _, b, rfl, .ty n, tyD_of hC (r.mono st.ex) hd, hk, done st (.bl _) h⟩
theorem cw_isC {d : Dt} {C : Addr} {b : Bool} (hC : IsiC X.K g.shop) (hd : tyD g.shop d ≠ .none) (hk : PySem.W.kitOne X.K (tyD g.shop d) (.ref C) = some b) (h : R (.bl b) S) : CW X g Fr (.builtin "isinstance") [.im d, .im (.cls C)] S R := cw_of call_isi fun σ H0 H vs st ra => by
  obtain ⟨v, w, rfl, r, q⟩ := arg2 ra
  cases q
  exact ⟨v, _, _, _, b, rfl, .own C, tyD_of hC (r.mono st.ex) hd, hk, done st (.bl _) h⟩
theorem ew_ty {n : String} {x : Str} (hm : X.mg x = none) (hv : bootBuiltins x = some (.type n)) (h : R (.ty n) S) (hg : Gl X x := by rfl) (hn : x ≠ "__name__" := by decide) (hd : (x == ("__debug__" : Str)) = false := by decide) : EW X g Fr (.Name x pos) S R :=
  ew_of (pe_bltn (v := .ty n) hg hm hv rfl hn hd) fun _ H0 _ st => ⟨_, S, H0, Ex.refl _, st, .ty n, h⟩
theorem ew_cls {C : Addr} {x : Str} (hm : X.mg x = some (.ref C)) (h : R (.cls C) S) (hg : Gl X x := by rfl) (hd : (x == ("__debug__" : Str)) = false := by decide) : EW X g Fr (.Name x pos) S R :=
  ew_of (pe_glob (v := .ref C) hg hm rfl hd) fun _ H0 _ st => ⟨_, S, H0, Ex.refl _, st, .cls C, h⟩
/-! ### calls of built-ins -/
theorem ew_callB {x : Str} {id : String} {e : Expr} {es : List Expr} {p : Pos} (hm : X.mg x = none) (hv : bootBuiltins x = some (.builtin id)) (h : AW X g Fr (e :: es) S fun ss S1 => CW X g Fr (.builtin id) ss S1 R) (hg : Gl X x := by rfl) (hn : x ≠ "__name__" := by decide) (hdb : (x == ("__debug__" : Str)) = false := by decide)
    (he : starEach (e :: es) X.env = (false, eval e X.env) :: starEach es X.env := by rfl) (hpl : (backTo pos (starEach es X.env)).any (·.1) = false := by rfl) : EW X g Fr (.Call (.Name x p) (e :: es) [] pos) S R :=
  ew_of (pe_callB call_sem hg hm hv pa_sem hn hdb he hpl) fun σ H0 H st => semA_mono (h σ H0 H st) fun vs H1 ⟨ss, S1, H01, e1, st1, ra, q⟩ => fun pins s σ' us I r =>
    thn (q σ H01 H1 vs st1 ra pins s σ' us I r) fun _ _ ⟨v', H', I', r', q⟩ => ⟨v', H', I', r', q.back e1⟩
theorem ew_callTy {x : Str} {T : String} {e : Expr} {es : List Expr} {p : Pos} (hm : X.mg x = none) (hv : bootBuiltins x = some (.type T)) (h : AW X g Fr (e :: es) S fun ss S1 => CW X g Fr (.type T) ss S1 R) (hg : Gl X x := by rfl) (hn : x ≠ "__name__" := by decide) (hdb : (x == ("__debug__" : Str)) = false := by decide)
    (he : starEach (e :: es) X.env = (false, eval e X.env) :: starEach es X.env := by rfl) (hpl : (backTo pos (starEach es X.env)).any (·.1) = false := by rfl) : EW X g Fr (.Call (.Name x p) (e :: es) [] pos) S R :=
  ew_of (pe_callTy call_sem hg hm hv pa_sem hn hdb he hpl) fun σ H0 H st => semA_mono (h σ H0 H st) fun vs H1 ⟨ss, S1, H01, e1, st1, ra, q⟩ => fun pins s σ' us I r =>
    thn (q σ H01 H1 vs st1 ra pins s σ' us I r) fun _ _ ⟨v', H', I', r', q⟩ => ⟨v', H', I', r', q.back e1⟩
/-! ### subscripts and slices -/
theorem atI_rep {K : PySem.W.Frag} {H : Hp} {vs : List V} {ds : List Dt} {k : Int} {d : Dt} (l : RepL K g H vs ds) (h : atI ds k = some d) : ∃ v, atI vs k = some v ∧ Rep K g H v d := by
  unfold atI at h ⊢
  rw [l.length]
  cases q : ixN ds.length k with
  | none => rw [q] at h; cases h
  | some j => rw [q] at h; exact l.get h
theorem ew_ix {a b : Expr} (h : EW X g Fr a S fun d1 S1 => EW X g Fr b S1 fun d2 S2 => ∃ xs k d, itemsOf d1 = some xs ∧ d2 = .int k ∧ atI xs k = some d ∧ R d S2) (hp : PlainIx b := by exact fun _ _ => rfl) : EW X g Fr (.Subscript a b pos) S R :=
  ew_of (pe_ix ix_seq pe_sem pe_sem hp) fun σ H0 H st => sem_mono (h σ H0 H st) fun v1 H1 ⟨d1, S1, H01, e1, st1, r1, h1⟩ => sem_mono (h1 σ H01 H1 st1) fun v2 H2 ⟨d2, S2, H02, e2, st2, r2, xs, k, d, hx, hk, ha, q⟩ => by
    subst hk
    cases r2
    obtain ⟨a, ws, rfl, ha', l⟩ := items_rep (r1.mono e2) hx
    obtain ⟨v, hv, rv⟩ := atI_rep l ha
    have fin : PostE X.K g Fr σ H0 R v H2 := ⟨d, S2, H02, e1.trans e2, st2, rv, q⟩
    rcases ha' with z | z
    · exact .inl ⟨a, ws, k, v, rfl, rfl, sq_of (st2.ex _ _ z), hv, fin⟩
    · exact .inr (.inl ⟨a, ws, k, v, rfl, rfl, st_of (st2.ex _ _ z), hv, fin⟩)
theorem ew_ixS {a b : Expr} (h : EW X g Fr a S fun d1 S1 => EW X g Fr b S1 fun d2 S2 => ∃ ns k z, d1 = .scr ns ∧ d2 = .int k ∧ atI ns k = some z ∧ R (.int z) S2) (hp : PlainIx b := by exact fun _ _ => rfl) : EW X g Fr (.Subscript a b pos) S R :=
  ew_of (pe_ix ix_list pe_sem pe_sem hp) fun σ H0 H st => sem_mono (h σ H0 H st) fun v1 H1 ⟨d1, S1, H01, e1, st1, r1, h1⟩ => sem_mono (h1 σ H01 H1 st1) fun v2 H2 ⟨d2, S2, H02, e2, st2, r2, ns, k, z, hx, hk, ha, q⟩ => by
    subst hk hx
    cases r2
    cases r1 with
    | scr e =>
      refine ⟨_, _, k, .int z, rfl, rfl, ex_l (e2.trans st2.ex) e, ?_, ⟨_, S2, H02, e1.trans e2, st2, .int _, q⟩⟩
      unfold atI at ha ⊢
      rw [List.length_map]
      cases w : ixN ns.length k with
      | none => rw [w] at ha; cases ha
      | some j =>
        rw [w] at ha
        have ha : ns[j]? = some z := ha
        show (ns.map V.int)[j]? = _
        rw [List.getElem?_map, ha]; rfl
/-- an item of the name's own list -/
theorem ew_ixO (i : Nat) {x : Str} {b : Expr} {xp : Pos} {p : Addr} {o : OD} (hS : S[i]? = some (.own p o)) (h : EW X g Fr b S fun d2 S2 => ∃ xs k d, S2[i]? = some (.own p (.lst xs)) ∧ d2 = .int k ∧ atI xs k = some d ∧ R d S2) (hp : PlainIx b := by exact fun _ _ => rfl)
    (hN : X.N[i]? = some x := by rfl) (hv : Vis X.env.scope x := by first | exact Or.inl rfl | exact Or.inr (Or.inl rfl) | exact Or.inr (Or.inr rfl)) (hd : (x == ("__debug__" : Str)) = false := by decide) (hcd : (x == ("__classdict__" : Str)) = false := by decide) : EW X g Fr (.Subscript (.Name x xp) b pos) S R :=
  ew_of (pe_ix ix_list (pe_var hN hv hd hcd) pe_sem hp) fun σ H0 H st => ⟨.ref p, (st.own_at hS).1, sem_mono (h σ H0 H st) fun v2 H2 ⟨d2, S2, H02, e2, st2, r2, xs, k, d, hx, hk, ha, q⟩ => by
    subst hk
    cases r2
    obtain ⟨_, ws, e, l⟩ := st2.own_at hx
    obtain ⟨v, hv, rv⟩ := atI_rep l ha
    exact ⟨p, ws, k, v, rfl, rfl, sq_of e, hv, ⟨d, S2, H02, e2, st2, rv, q⟩⟩⟩
/-- a slice's part -/
def OW (X : Cx) (g : Cl) (Fr : Hp) : Option Expr → List Slot → (Option Int → List Slot → Prop) → Prop
  | none, S, R => R none S
  | some e, S, R => EW X g Fr e S fun d S1 => ∃ i, d = .int i ∧ R (some i) S1
def tSemO (X : Cx) : Option Expr → TO
  | none => tNoPart
  | some e => tPart (tSem X e)
theorem po_sem : ∀ {o : Option Expr}, PO X o (tSemO X o)
  | none => po_none
  | some _ => po_some pe_sem
theorem ow_run {o : Option Expr} {P : Option Int → List Slot → Prop} {σ : L2.St} {H0 H : Hp} {Q : Option Int → Hp → Prop} (h : OW X g Fr o S P) (st : StR X.K g Fr H0 H σ S) (k : ∀ u S' H0' H', Ex H0 H0' → StR X.K g Fr H0' H' σ S' → P u S' → Q u H') : tSemO X o σ H Q := by
  cases o with
  | none => exact k _ _ _ _ (Ex.refl _) st h
  | some e =>
    refine sem_mono (h σ H0 H st) fun v H1 ⟨d, S1, H01, e1, st1, r1, i, ei, q⟩ => ?_
    subst ei
    cases r1
    exact ⟨i, rfl, k _ _ _ _ e1 st1 q⟩
def cutD (xs : List Dt) (lo hi : Option Int) : List Dt := (xs.drop (HT.sIx xs.length 0 lo)).take (HT.sIx xs.length xs.length hi - HT.sIx xs.length 0 lo)
theorem cut_rep {K : PySem.W.Frag} {H : Hp} {vs : List V} {ds : List Dt} {lo hi : Option Int} (l : RepL K g H vs ds) : RepL K g H (cutV vs lo hi) (cutD ds lo hi) := by
  unfold cutV cutD
  rw [l.length]
  exact (l.drop _).take _
theorem ew_slL {a : Expr} {lo hi : Option Expr} {p2 : Pos} (h : EW X g Fr a S fun d S1 => OW X g Fr lo S1 fun l S2 => OW X g Fr hi S2 fun u S3 => ∃ xs, d = .lst xs ∧ R (.lst (cutD xs l u)) S3) : EW X g Fr (.Subscript a (.Slice lo hi none p2) pos) S R :=
  ew_of (pe_slice sl_list pe_sem po_sem po_sem) fun σ H0 H st => sem_mono (h σ H0 H st) fun v1 H1 ⟨d1, S1, H01, e1, st1, r1, h1⟩ => ow_run h1 st1 fun l S2 H02 H2 e2 st2 h2 => ow_run h2 st2 fun u S3 H03 H3 e3 st3 ⟨xs, ed, q⟩ => by
    subst ed
    cases r1 with
    | lst e l => exact ⟨_, _, rfl, sq_of (st3.ex _ _ (e3 _ _ (e2 _ _ e))), fun p hp => (doneN st3 hp (fun H4 ex e4 => .lst e4 (cut_rep (l.mono ((e2.trans e3).trans ex)))) q).back ((e1.trans e2).trans e3)⟩
theorem cut_whole {xs : List Dt} {lo hi : Option Int} (h : HT.sIx xs.length 0 lo = 0 ∧ HT.sIx xs.length xs.length hi = xs.length) : cutD xs lo hi = xs := by
  unfold cutD
  rw [h.1, h.2]; simp
theorem ew_slT {a : Expr} {lo hi : Option Expr} {p2 : Pos} (h : EW X g Fr a S fun d S1 => OW X g Fr lo S1 fun l S2 => OW X g Fr hi S2 fun u S3 => ∃ xs, d = .tup xs ∧ R (.tup (cutD xs l u)) S3) : EW X g Fr (.Subscript a (.Slice lo hi none p2) pos) S R :=
  ew_of (pe_slice sl_tupA pe_sem po_sem po_sem) fun σ H0 H st => sem_mono (h σ H0 H st) fun v1 H1 ⟨d1, S1, H01, e1, st1, r1, h1⟩ => ow_run h1 st1 fun l S2 H02 H2 e2 st2 h2 => ow_run h2 st2 fun u S3 H03 H3 e3 st3 ⟨xs, ed, q⟩ => by
    subst ed
    cases r1 with
    | tup e lr =>
      refine ⟨_, _, rfl, st_of (st3.ex _ _ (e3 _ _ (e2 _ _ e))), fun z => ?_, fun _ p hp => (doneN st3 hp (fun H4 ex e4 => .tup e4 (cut_rep (lr.mono ((e2.trans e3).trans ex)))) q).back ((e1.trans e2).trans e3)⟩
      rw [lr.length] at z
      rw [cut_whole z] at q
      exact ⟨_, S3, H03, (e1.trans e2).trans e3, st3, .tup ((e2.trans e3) _ _ e) (lr.mono (e2.trans e3)), q⟩
theorem RepL.rev {K : PySem.W.Frag} {H : Hp} : ∀ {vs : List V} {ds : List Dt}, RepL K g H vs ds → RepL K g H vs.reverse ds.reverse
  | _, _, .nil => .nil
  | _, _, .cons r t => by rw [List.reverse_cons, List.reverse_cons]; exact (RepL.rev t).append (.cons r .nil)
theorem ew_rev {e : Expr} {k : Nat} {p1 p2 p3 : Pos} (h : EW X g Fr e S fun d S1 => ∃ xs, d = .lst xs ∧ R (.lst xs.reverse) S1) : EW X g Fr (.Subscript e (.Slice none none (some (.UnaryOp .USub (.Constant (.int 1) k p1) p2)) p3) pos) S R :=
  ew_of (pe_revL pe_sem) fun σ H0 H st => sem_mono (h σ H0 H st) fun v1 H1 ⟨d1, S1, H01, e1, st1, r1, xs, ed, q⟩ => by
    subst ed
    cases r1 with
    | lst e l => exact ⟨_, _, rfl, sq_of (st1.ex _ _ e), fun p hp => (doneN st1 hp (fun H4 ex e4 => .lst e4 (l.mono ex).rev) q).back e1⟩
end
end DL

set_option Elab.async false
set_option linter.all false
set_option autoImplicit false
set_option maxRecDepth 100000
set_option maxHeartbeats 2000000
/-! The data layer, fourth part: what a def promises, calls, attributes. -/
namespace DL
open PySem PySem.Spec PyProof.Rows L2 PK

/-- what a def comes to: its arguments' slots, what is wanted of its result (its own arguments are left as they are) -/
abbrev FM := List Slot → (Slot → Prop) → Prop
def Mono (F : FM) : Prop := ∀ ss (R R' : Slot → Prop), (∀ r, R r → R' r) → F ss R → F ss R'
def spS (K : PySem.W.Frag) (g : Cl) (F : FM) : Sp := fun vs H Q _ => ∃ Fr H0 ss, StR K g Fr H0 H (vs.map some) ss ∧ F ss fun r => ∀ v H0' H', Ex H0 H0' → StR K g Fr H0' H' (vs.map some ++ [some v]) (ss ++ [r]) → Q v H'
/-- a def of the module under its name -/
structure FnD (P : Program) (w : World) (K : PySem.W.Frag) (mg : Str → Option Value) (base : Heap) (g : Cl) (k : Nat) (x : Str) (F : FM) : Prop where
  mono : Mono F
  ex : ∃ f : Addr, mg x = some (.ref f) ∧ PySem.W.keepIn K (.ref f) = true ∧ FnR P w K mg base CX0 k f (spS K g F)
/-- a method -/
structure MtD (P : Program) (w : World) (K : PySem.W.Frag) (mg : Str → Option Value) (base : Heap) (g : Cl) (k : Nat) (C : Addr) (m : Str) (F : FM) : Prop where
  mono : Mono F
  ex : ∃ f : Addr, Meth K C m f ∧ FnR P w K mg base CX0 k f (spS K g F)

section
variable {K : PySem.W.Frag} {g : Cl} {Fr H0 H : Hp} {σ : L2.St} {S ss : List Slot} {vs : List V}
theorem ArgR.len : ∀ {vs : List V} {ss : List Slot}, ArgR K g H0 S vs ss → vs.length = ss.length
  | _, _, .nil => rfl
  | _, _, .im _ t => congrArg (· + 1) t.len
  | _, _, .own _ t => congrArg (· + 1) t.len
theorem ArgR.sub : ∀ {vs : List V} {ss : List Slot}, ArgR K g H0 S vs ss → ∀ p o, Slot.own p o ∈ ss → Slot.own p o ∈ S
  | _, _, .nil, _, _, h => by simp at h
  | _, _, .im _ t, p, o, h => t.sub p o (by simpa using h)
  | _, _, .own m t, p, o, h => by
    rcases List.mem_cons.mp h with e | e
    · cases e; exact m
    · exact t.sub p o e
theorem ArgR.sl (st : StR K g Fr H0 H σ S) : ∀ {vs : List V} {ss : List Slot}, ArgR K g H0 S vs ss → ∀ (i : Nat) (s : Slot), ss[i]? = some s → SlR K g H0 H ((vs.map some)[i]?) s
  | _, _, .nil, i, s, h => by simp at h
  | _, _, .im r t, 0, s, h => by simp at h; subst h; exact ⟨_, rfl, r⟩
  | _, _, .im r t, i + 1, s, h => by simpa using t.sl st i s (by simpa using h)
  | _, _, .own m t, 0, s, h => by
    simp at h; subst h
    obtain ⟨i, hi⟩ := List.mem_iff_getElem?.mp m
    exact ⟨rfl, (st.own_at hi).2⟩
  | _, _, .own m t, i + 1, s, h => by simpa using t.sl st i s (by simpa using h)
/-- slots that share an address are one -/
theorem one_slot {a : Addr} : ∀ {S : List Slot} {s t : Slot}, (S.flatMap Slot.fp).Nodup → s ∈ S → t ∈ S → a ∈ s.fp → a ∈ t.fp → s = t
  | [], _, _, _, h, _, _, _ => by simp at h
  | u :: r, s, t, nd, hs, ht, ms, mt => by
    rw [List.flatMap_cons] at nd
    obtain ⟨n1, n2, n3⟩ := List.nodup_append.mp nd
    rcases List.mem_cons.mp hs with e | e <;> rcases List.mem_cons.mp ht with e' | e'
    · rw [e, e']
    · subst e; exact absurd rfl (n3 a ms a (mem_fp e' mt))
    · subst e'; exact absurd rfl (n3 a mt a (mem_fp e ms))
    · exact one_slot n2 e e' ms mt
/-- what a callee must leave -/
def frOf (H0 H : Hp) (ss : List Slot) : Hp := fun a => if (H0 a).isSome = true ∨ a ∈ ss.flatMap Slot.fp then none else H a
theorem frOf_some {a : Addr} {o : HO} (h : frOf H0 H ss a = some o) : H0 a = none ∧ a ∉ ss.flatMap Slot.fp ∧ H a = some o := by
  unfold frOf at h
  split at h
  · cases h
  · rename_i q
    refine ⟨?_, fun m => q (.inr m), h⟩
    cases e : H0 a with
    | none => rfl
    | some u => exact absurd (.inl (by rw [e]; rfl)) q
theorem frOf_of {a : Addr} (h0 : H0 a = none) (h : a ∉ ss.flatMap Slot.fp) : frOf H0 H ss a = H a := by
  unfold frOf
  rw [if_neg]
  rintro (q | q)
  · rw [h0] at q; cases q
  · exact h q
theorem call_in (st : StR K g Fr H0 H σ S) (ra : ArgR K g H0 S vs ss) (nd : (ss.flatMap Slot.fp).Nodup) : StR K g (frOf H0 H ss) H0 H (vs.map some) ss := by
  refine ⟨st.ex, fun a o h => (frOf_some h).2.2, fun a o h => (frOf_some h).1, by simpa using ra.len, ra.sl st, nd, fun a ha => ?_⟩
  obtain ⟨s, hs, m⟩ := List.mem_flatMap.mp ha
  cases s with
  | no => simp [Slot.fp] at m
  | im d => simp [Slot.fp] at m
  | own p o =>
    refine ⟨(st.free a (mem_fp (ra.sub p o hs) m)).1, ?_⟩
    unfold frOf
    rw [if_pos (.inr ha)]
theorem call_out {H0' H' : Hp} {v : V} {r : Slot} (st : StR K g Fr H0 H σ S) (ra : ArgR K g H0 S vs ss) (e : Ex H0 H0') (st' : StR K g (frOf H0 H ss) H0' H' (vs.map some ++ [some v]) (ss ++ [r])) : StR K g Fr H0' H' (σ ++ [some v]) (S ++ [r]) := by
  have hfp : ∀ a, a ∈ (ss ++ [r]).flatMap Slot.fp ↔ a ∈ ss.flatMap Slot.fp ∨ a ∈ r.fp := fun a => by simp [List.flatMap_append]
  have ndr : ∀ a, a ∈ ss.flatMap Slot.fp → a ∈ r.fp → False := fun a h1 h2 => by
    have := st'.nd
    rw [List.flatMap_append] at this
    exact (List.nodup_append.mp this).2.2 a h1 a (by simpa using h2) rfl
  -- what stood and is no argument stands
  have keep : ∀ a o, H a = some o → a ∉ ss.flatMap Slot.fp → H' a = some o := fun a o h n => by
    cases q : H0 a with
    | some u =>
      have := st.ex a u q
      rw [h] at this; cases this
      exact st'.ex _ _ (e _ _ q)
    | none => exact st'.fr _ _ (by rw [frOf_of q n]; exact h)
  have notin : ∀ a o, Fr a = some o → a ∉ ss.flatMap Slot.fp := fun a o h m => by
    obtain ⟨s, hs, m⟩ := List.mem_flatMap.mp m
    cases s with
    | no => simp [Slot.fp] at m
    | im d => simp [Slot.fp] at m
    | own p q => have := (st.free a (mem_fp (ra.sub p q hs) m)).2; rw [h] at this; cases this
  have hsome : ∀ a, a ∈ S.flatMap Slot.fp → ∃ u, H a = some u := fun a ha => by
    obtain ⟨s, hs, m⟩ := List.mem_flatMap.mp ha
    obtain ⟨i, hi⟩ := List.mem_iff_getElem?.mp hs
    cases s with
    | no => simp [Slot.fp] at m
    | im d => simp [Slot.fp] at m
    | own p o => exact (st.own_at hi).2.some_of m
  have free0 : ∀ a, a ∈ S.flatMap Slot.fp → H0' a = none := fun a ha => by
    by_cases m : a ∈ ss.flatMap Slot.fp
    · exact (st'.free a ((hfp a).mpr (.inl m))).1
    · obtain ⟨u, hu⟩ := hsome a ha
      exact st'.dis a u (by rw [frOf_of (st.free a ha).1 m]; exact hu)
  refine ⟨st'.ex, fun a o h => keep a o (st.fr a o h) (notin a o h), fun a o h => ?_, by simp [st.len], fun i s h => ?_, ?_, fun a ha => ?_⟩
  · exact st'.dis a o (by rw [frOf_of (st.dis a o h) (notin a o h)]; exact st.fr a o h)
  · by_cases hi : i < S.length
    · rw [List.getElem?_append_left hi] at h
      rw [List.getElem?_append_left (by rw [st.len]; exact hi)]
      have q := st.sl i s h
      cases s with
      | no => trivial
      | im d => obtain ⟨v, h1, h2⟩ := q; exact ⟨v, h1, h2.mono e⟩
      | own p o =>
        refine ⟨q.1, ?_⟩
        by_cases m : Slot.own p o ∈ ss
        · obtain ⟨j, hj⟩ := List.mem_iff_getElem?.mp m
          have hjl : j < ss.length := (List.getElem?_eq_some_iff.mp hj).1
          exact (st'.own_at (i := j) (by rw [List.getElem?_append_left hjl]; exact hj)).2
        · refine q.2.keep e fun a ha u hu => keep a u hu fun m2 => ?_
          obtain ⟨t, ht, mt⟩ := List.mem_flatMap.mp m2
          cases t with
          | no => simp [Slot.fp] at mt
          | im d => simp [Slot.fp] at mt
          | own p2 o2 =>
            have := one_slot st.nd (List.mem_iff_getElem?.mpr ⟨i, h⟩) (ra.sub p2 o2 ht) ha mt
            rw [this] at m
            exact m ht
    · rw [List.getElem?_append_right (by omega)] at h
      have e0 : i - S.length = 0 := by
        cases q : i - S.length with
        | zero => rfl
        | succ n => rw [q] at h; simp at h
      rw [e0] at h
      simp at h
      subst h
      rw [List.getElem?_append_right (by rw [st.len]; omega), st.len, e0]
      have hl : vs.length = ss.length := ra.len
      have := st'.sl ss.length r (by simp)
      rw [List.getElem?_append_right (by simp [hl])] at this
      simpa [hl] using this
  · rw [List.flatMap_append]
    have n2 := st'.nd
    rw [List.flatMap_append] at n2
    refine List.nodup_append.mpr ⟨st.nd, (List.nodup_append.mp n2).2.1, fun a ha b hb e1 => ?_⟩
    subst e1
    have hb : a ∈ r.fp := by simpa using hb
    by_cases m : a ∈ ss.flatMap Slot.fp
    · exact ndr a m hb
    · obtain ⟨u, hu⟩ := hsome a ha
      have q := (st'.free a ((hfp a).mpr (.inr hb))).2
      rw [frOf_of (st.free a ha).1 m, hu] at q
      cases q
  · rw [List.flatMap_append] at ha
    rcases List.mem_append.mp ha with ha | ha
    · exact ⟨free0 a ha, (st.free a ha).2⟩
    · have ha : a ∈ r.fp := by simpa using ha
      have q := st'.free a ((hfp a).mpr (.inr ha))
      refine ⟨q.1, ?_⟩
      cases w : Fr a with
      | none => rfl
      | some o =>
        have := q.2
        rw [frOf_of (st.dis a o w) (notin a o w), st.fr a o w] at this
        cases this
/-- the joined slot let go -/
theorem StR.unsnoc {v : V} {r : Slot} (st : StR K g Fr H0 H (σ ++ [some v]) (S ++ [r])) : StR K g Fr H0 H σ S := by
  have hl : σ.length = S.length := by simpa using st.len
  refine ⟨st.ex, st.fr, st.dis, hl, fun i s h => ?_, ?_, fun a ha => st.free a (by rw [List.flatMap_append]; exact List.mem_append_left _ ha)⟩
  · have hi : i < S.length := (List.getElem?_eq_some_iff.mp h).1
    have := st.sl i s (by rw [List.getElem?_append_left hi]; exact h)
    rwa [List.getElem?_append_left (by omega)] at this
  · have := st.nd
    rw [List.flatMap_append] at this
    exact (List.nodup_append.mp this).1
theorem StR.last {v : V} {d : Dt} (st : StR K g Fr H0 H (σ ++ [some v]) (S ++ [.im d])) : Rep K g H0 v d := by
  have hl : σ.length = S.length := by simpa using st.len
  obtain ⟨w, h1, h2⟩ := st.sl S.length (.im d) (by simp)
  rw [List.getElem?_append_right (by omega)] at h1
  simp [hl] at h1
  rw [h1]; exact h2
end

section
variable {X : Cx} {g : Cl} {Fr : Hp} {S : List Slot} {R : Dt → List Slot → Prop} {T : Slot → List Slot → Prop} {pos : Pos} {k : Nat} {F : FM}
/-- a value as a datum -/
theorem ew_ef {e : Expr} (h : EF X g Fr e S fun r S1 => ∃ d, r = .im d ∧ R d S1) : EW X g Fr e S R := fun σ H0 H st => sem_mono (h σ H0 H st) fun v H1 ⟨r, S1, H01, e1, st1, d, er, q⟩ => by
  subst er
  exact ⟨d, S1, H01, e1, st1.unsnoc, st1.last, q⟩
theorem call_post {σ : L2.St} {H0 H : Hp} {vs : List V} {ss : List Slot} (hm : Mono F) (st : StR X.K g Fr H0 H σ S) (ra : ArgR X.K g H0 S vs ss) (nd : (ss.flatMap Slot.fp).Nodup) (h : F ss fun r => T r S) : spS X.K g F vs H (PostF X.K g Fr σ H0 T) E0 :=
  ⟨frOf H0 H ss, H0, ss, call_in st ra nd, hm ss _ _ (fun r q v H0' H' ex st' => ⟨r, S, H0', ex, call_out st ra ex st', q⟩) h⟩
theorem pe_callR {sp : Sp} {f : Addr} {x : Str} {e : Expr} {es : List Expr} {t : TA} {p : Pos} (G : FnR X.prog X.w X.K X.mg X.base CX0 k f sp) (hr : Room k X.A) (hm : X.mg x = some (.ref f)) (hk : PySem.W.keepIn X.K (.ref f) = true) (ha : PA X (e :: es) t) (hg : Gl X x := by rfl) (hdb : (x == ("__debug__" : Str)) = false := by decide)
    (he : starEach (e :: es) X.env = (false, eval e X.env) :: starEach es X.env := by rfl) (hpl : (backTo pos (starEach es X.env)).any (·.1) = false := by rfl) : PE X (.Call (.Name x p) (e :: es) [] pos) (fun σ H Q => t σ H fun vs H1 => sp vs H1 Q E0) := by
  refine ⟨fun pins s σ H Q I h => ?_⟩
  refine wpAny_Call_Name_kw (ld_glob I hg hm ?_ hdb)
  refine PySem.W.callWith_K (h₀ := X.base) I.ok.mod.kin hk (thn (ha.run pos pins s σ H _ I h) fun us s1 z => ?_) he hpl
  obtain ⟨vs, H1, I1, r, q⟩ := z
  exact ⟨I1.kIn, wpAny_call (run_fnR G hr pass0 I1 r q)⟩
/-- f(e, ..) of the module -/
theorem ef_call {x : Str} {e : Expr} {es : List Expr} {p : Pos} (G : FnD X.prog X.w X.K X.mg X.base g k x F) (hr : Room k X.A) (h : AW X g Fr (e :: es) S fun ss S1 => (ss.flatMap Slot.fp).Nodup ∧ F ss fun r => T r S1) (hg : Gl X x := by rfl) (hdb : (x == ("__debug__" : Str)) = false := by decide)
    (he : starEach (e :: es) X.env = (false, eval e X.env) :: starEach es X.env := by rfl) (hpl : (backTo pos (starEach es X.env)).any (·.1) = false := by rfl) : EF X g Fr (.Call (.Name x p) (e :: es) [] pos) S T := by
  obtain ⟨f, hm, hk, Gf⟩ := G.ex
  exact fun σ H0 H st => sem_of (pe_callR Gf hr hm hk pa_sem hg hdb he hpl) (semA_mono (h σ H0 H st) fun vs H1 ⟨ss, S1, H01, e1, st1, ra, nd, q⟩ => by
    obtain ⟨Fr', H0', ss', a, b⟩ := call_post (T := T) G.mono st1 ra nd q
    exact ⟨Fr', H0', ss', a, G.mono _ _ _ (fun r w v H0'' H'' x1 x2 => (w v H0'' H'' x1 x2).back e1) b⟩)
theorem ew_call {x : Str} {e : Expr} {es : List Expr} {p : Pos} (G : FnD X.prog X.w X.K X.mg X.base g k x F) (hr : Room k X.A) (h : AW X g Fr (e :: es) S fun ss S1 => (ss.flatMap Slot.fp).Nodup ∧ F ss fun r => ∃ d, r = .im d ∧ R d S1) (hg : Gl X x := by rfl) (hdb : (x == ("__debug__" : Str)) = false := by decide)
    (he : starEach (e :: es) X.env = (false, eval e X.env) :: starEach es X.env := by rfl) (hpl : (backTo pos (starEach es X.env)).any (·.1) = false := by rfl) : EW X g Fr (.Call (.Name x p) (e :: es) [] pos) S R := ew_ef (ef_call G hr h hg hdb he hpl)
/-- the fields of a price list -/
structure ShC (K : PySem.W.Frag) (g : Cl) : Prop where
  isi : IsiC K g.shop
  nN : NoAttr K g.shop "needed"
  nB : NoAttr K g.shop "best"
  nK : NoAttr K g.shop "known"
theorem ew_fldN {e : Expr} (C : ShC X.K g) (h : EW X g Fr e S fun d S1 => ∃ ps, d = .shop ps ∧ R (.tup (ps.map pk)) S1) (hb : attributeBase e "needed" X.env (eval e X.env) = eval e X.env := by rfl) : EW X g Fr (.Attribute e "needed" pos) S R :=
  ew_of (pe_fld pe_sem hb) fun σ H0 H st => sem_mono (h σ H0 H st) fun v H1 ⟨d, S1, H01, e1, st1, r, ps, ed, q⟩ => by
    subst ed
    cases r with
    | shop ok h1 h2 l h3 h4 => exact ⟨_, g.shop, _, _, .ref _, rfl, st1.ex _ _ h1, C.isi.cl, C.nN, rfl, ⟨_, S1, H01, e1, st1, .tup h2 l, q⟩⟩
theorem ew_fldB {e : Expr} (C : ShC X.K g) (h : EW X g Fr e S fun d S1 => ∃ ps, d = .shop ps ∧ R (pk (bestOf ps)) S1) (hb : attributeBase e "best" X.env (eval e X.env) = eval e X.env := by rfl) : EW X g Fr (.Attribute e "best" pos) S R :=
  ew_of (pe_fld pe_sem hb) fun σ H0 H st => sem_mono (h σ H0 H st) fun v H1 ⟨d, S1, H01, e1, st1, r, ps, ed, q⟩ => by
    subst ed
    cases r with
    | shop ok h1 h2 l h3 h4 => exact ⟨_, g.shop, _, _, .ref _, rfl, st1.ex _ _ h1, C.isi.cl, C.nB, rfl, ⟨_, S1, H01, e1, st1, .tup h3 (.cons (.int _) (.cons (.int _) .nil)), q⟩⟩
theorem ew_fldK {e : Expr} (C : ShC X.K g) (h : EW X g Fr e S fun d S1 => ∃ ps, d = .shop ps ∧ R (.lst ((knownOf ps).map Dt.int)) S1) (hb : attributeBase e "known" X.env (eval e X.env) = eval e X.env := by rfl) : EW X g Fr (.Attribute e "known" pos) S R :=
  ew_of (pe_fld pe_sem hb) fun σ H0 H st => sem_mono (h σ H0 H st) fun v H1 ⟨d, S1, H01, e1, st1, r, ps, ed, q⟩ => by
    subst ed
    cases r with
    | shop ok h1 h2 l h3 h4 => exact ⟨_, g.shop, _, _, .ref _, rfl, st1.ex _ _ h1, C.isi.cl, C.nK, rfl, ⟨_, S1, H01, e1, st1, .lst h4 (RepL.of_ints _), q⟩⟩
theorem shopF_none {m : Str} {a b c : Addr} (h : (shopF 0 0 0).lookup m = none) : (shopF a b c).lookup m = none := by
  unfold shopF at h ⊢
  simp only [List.lookup] at h ⊢
  cases h1 : (m == ("needed" : Str)) with
  | true => rw [h1] at h; cases h
  | false =>
    rw [h1] at h
    cases h2 : (m == ("best" : Str)) with
    | true => rw [h2] at h; cases h
    | false =>
      rw [h2] at h
      cases h3 : (m == ("known" : Str)) with
      | true => rw [h3] at h; cases h
      | false => rfl
/-- a method of a price list: m is none of its attributes -/
theorem ef_meth {o e : Expr} {es : List Expr} {m : Str} {apos : Pos} {pl : Sem Bool} (C : ShC X.K g) (G : MtD X.prog X.w X.K X.mg X.base g k g.shop m F) (hr : Room k X.A)
    (h : EW X g Fr o S fun d S1 => ∃ ps, d = .shop ps ∧ AW X g Fr (e :: es) S1 fun ss S2 => (ss.flatMap Slot.fp).Nodup ∧ F (.im d :: ss) fun r => T r S2) (hl : (shopF 0 0 0).lookup m = none := by decide)
    (hst : starEach (e :: es) X.env = (false, eval e X.env) :: starEach es X.env := by rfl) (hpl : (backTo pos (starEach es X.env)).any (·.1) = false := by rfl)
    (ht : eval (.Call (.Attribute o m apos) (e :: es) [] pos) X.env = (do
      let ov ← eval o X.env
      standAt apos.atName
      let (f, first) ← holding [ov] (getMethod ov m pl)
      callWith pos f first (backTo pos (starEach (e :: es) X.env)) (backToKw pos (keywordEach [] X.env))) := by rfl) : EF X g Fr (.Call (.Attribute o m apos) (e :: es) [] pos) S T := by
  obtain ⟨f, hm, Gf⟩ := G.ex
  refine fun σ H0 H st => sem_of (t := fun σ H Q => tSem X o σ H fun x H1 => ∃ a dx fs, x = .ref a ∧ H1 a = some (.ins g.shop dx fs) ∧ fs.lookup m = none ∧ tSemA X (e :: es) σ H1 fun vs H2 => spS X.K g F (x :: vs) H2 Q E0) ⟨fun pins s σ H Q I hq => ?_⟩ ?_
  · refine PySem.W.methodCall_KW (pl := pl) (thn (hq pins s I) fun u s1 z => ?_) ht
    obtain ⟨x, H1, I1, rx, a, dx, fs, ex, ea, l, q⟩ := z
    subst ex
    cases (show u = Value.ref a from rx)
    refine getmeth_ok I1 ea C.isi.cl hm l ?_
    refine PySem.W.callWith_K (first := [.ref a]) (h₀ := X.base) I.ok.mod.kin hm.kp (thn (q pos pins s1 I1) fun us s2 z => ?_) hst hpl
    obtain ⟨vs, H2, I2, r, q2⟩ := z
    exact ⟨I2.kIn, wpAny_call (run_fnR (us := .ref a :: us) (vs := .ref a :: vs) Gf hr pass0 I2 (.cons rfl r) q2)⟩
  · refine sem_mono (h σ H0 H st) fun v H1 ⟨d, S1, H01, e1, st1, r, ps, ed, q⟩ => ?_
    subst ed
    have r0 := r
    cases r with
    | shop ok h1 h2 l h3 h4 =>
      refine ⟨_, _, _, rfl, st1.ex _ _ h1, ?_, semA_mono (q σ H01 H1 st1) fun vs H2 ⟨ss, S2, H02, e2, st2, ra, nd, q2⟩ => ?_⟩
      · exact shopF_none hl
      · obtain ⟨Fr', H0', ss', a, b⟩ := call_post (T := T) G.mono st2 (.im (r0.mono e2) ra) (by simpa [Slot.fp] using nd) q2
        exact ⟨Fr', H0', ss', a, G.mono _ _ _ (fun r w v H0'' H'' x1 x2 => (w v H0'' H'' x1 x2).back (e1.trans e2)) b⟩
end
end DL

set_option Elab.async false
set_option linter.all false
set_option autoImplicit false
set_option maxRecDepth 100000
set_option maxHeartbeats 2000000
/-! The data layer, fifth part: statements, targets, loops, a def by its body. -/
namespace DL
open PySem PySem.Spec PyProof.Rows L2 PK

/-- what is wanted behind a statement, in data -/
structure DE where
  nx : List Slot → Prop
  rt : Slot → List Slot → Prop
  bk : List Slot → Prop := fun _ => False
  ct : List Slot → Prop := fun _ => False
def nxP (K : PySem.W.Frag) (g : Cl) (Fr H0 : Hp) (P : List Slot → Prop) (σ : L2.St) (H : Hp) : Prop := ∃ S H0', Ex H0 H0' ∧ StR K g Fr H0' H σ S ∧ P S
def ends (K : PySem.W.Frag) (g : Cl) (Fr H0 : Hp) (D : DE) : Ends where
  nx := nxP K g Fr H0 D.nx
  rt := fun v H => ∃ r S σ H0', Ex H0 H0' ∧ StR K g Fr H0' H (σ ++ [some v]) (S ++ [r]) ∧ D.rt r S
  bk := nxP K g Fr H0 D.bk
  ct := nxP K g Fr H0 D.ct
theorem nxP.back {K : PySem.W.Frag} {g : Cl} {Fr H0 H1 H : Hp} {P : List Slot → Prop} {σ : L2.St} (e : Ex H0 H1) (h : nxP K g Fr H1 P σ H) : nxP K g Fr H0 P σ H := by
  obtain ⟨S, H2, e2, q⟩ := h
  exact ⟨S, H2, e.trans e2, q⟩
theorem ends_back {K : PySem.W.Frag} {g : Cl} {Fr H0 H1 : Hp} {D : DE} (e : Ex H0 H1) : EndsLe (ends K g Fr H1 D) (ends K g Fr H0 D) :=
  ⟨fun _ _ h => nxP.back e h, fun _ _ ⟨r, S, σ, H2, e2, q⟩ => ⟨r, S, σ, H2, e.trans e2, q⟩, fun _ _ h => nxP.back e h, fun _ _ h => nxP.back e h⟩
section
variable (X : Cx) (g : Cl) (Fr : Hp)
def SW (sts : List Stmt) (S : List Slot) (D : DE) : Prop := ∀ σ H0 H, StR X.K g Fr H0 H σ S → tSemSs X sts (ends X.K g Fr H0 D) σ H
def S1 (st : Stmt) (S : List Slot) (D : DE) : Prop := ∀ σ H0 H, StR X.K g Fr H0 H σ S → tSemS X st (ends X.K g Fr H0 D) σ H
/-- a target -/
def gSem (tg : Expr) : TG := fun v σ H Q => ∀ pins s u, Inv X pins σ H s → RelV v u → wpAny (model X.prog X.w) X.A (assign tg X.env u) (fun _ s' => ∃ σ' H', Inv X pins σ' H' s' ∧ Q σ' H') X.xe s
def gsSem (ts : List Expr) : TGs := fun vs σ H Q => ∀ pins s us, Inv X pins σ H s → Vals vs us → wpAny (model X.prog X.w) X.A (assignInOrder ((assignEach ts X.env).map (·.2)) us) (fun _ s' => ∃ σ' H', Inv X pins σ' H' s' ∧ Q σ' H') X.xe s
def GW (tg : Expr) (d : Dt) (S : List Slot) (T : List Slot → Prop) : Prop := ∀ σ H0 H v, StR X.K g Fr H0 H σ S → Rep X.K g H0 v d → gSem X tg v σ H (nxP X.K g Fr H0 T)
def GsW (ts : List Expr) (ds : List Dt) (S : List Slot) (T : List Slot → Prop) : Prop := ∀ σ H0 H vs, StR X.K g Fr H0 H σ S → RepL X.K g H0 vs ds → gsSem X ts vs σ H (nxP X.K g Fr H0 T)
end
section
variable {X : Cx} {g : Cl} {Fr : Hp} {S : List Slot} {D : DE} {pos : Pos}
theorem pg_sem {tg : Expr} : PG X tg (gSem X tg) := ⟨fun pins s _ _ _ u _ I r h => h pins s u I r⟩
theorem pgs_sem {ts : List Expr} : PGs X ts (gsSem X ts) := ⟨fun pins s _ _ _ us _ I r h => h pins s us I r⟩
theorem gsem_of {tg : Expr} {t : TG} {v : V} {σ : L2.St} {H : Hp} {Q : L2.St → Hp → Prop} (h : PG X tg t) (q : t v σ H Q) : gSem X tg v σ H Q := fun pins s u I r => h.run pins s σ H v u Q I r q
theorem gssem_of {ts : List Expr} {t : TGs} {vs : List V} {σ : L2.St} {H : Hp} {Q : L2.St → Hp → Prop} (h : PGs X ts t) (q : t vs σ H Q) : gsSem X ts vs σ H Q := fun pins s us I r => h.run pins s σ H vs us Q I r q
theorem gsem_mono {tg : Expr} {v : V} {σ : L2.St} {H : Hp} {Q Q' : L2.St → Hp → Prop} (h : gSem X tg v σ H Q) (k : ∀ σ H, Q σ H → Q' σ H) : gSem X tg v σ H Q' := fun pins s u I r => thn (h pins s u I r) fun _ _ ⟨σ', H', I', q⟩ => ⟨σ', H', I', k _ _ q⟩
theorem gssem_mono {ts : List Expr} {vs : List V} {σ : L2.St} {H : Hp} {Q Q' : L2.St → Hp → Prop} (h : gsSem X ts vs σ H Q) (k : ∀ σ H, Q σ H → Q' σ H) : gsSem X ts vs σ H Q' := fun pins s u I r => thn (h pins s u I r) fun _ _ ⟨σ', H', I', q⟩ => ⟨σ', H', I', k _ _ q⟩
theorem gw_name (i : Nat) {x : Str} {d : Dt} {T : List Slot → Prop} (hN : X.N.Nodup) (h : T (S.set i (.im d))) (hi : X.N[i]? = some x := by rfl) (hx : Loc X.env.scope x := by first | exact Or.inl rfl | exact Or.inr rfl) (hf : X.fn x = true ∨ X.env.scope.names.lookup x = some .local := by first | exact .inl rfl | exact .inr rfl) :
    GW X g Fr (.Name x pos) d S T := fun σ H0 H v st r => gsem_of (pg_name hN hi hx hf) ⟨_, H0, Ex.refl _, st.set_im r, h⟩
theorem gsw_nil {T : List Slot → Prop} (h : T S) : GsW X g Fr [] [] S T := fun σ H0 H vs st r => gssem_of pgs_nil (by cases r; exact ⟨rfl, S, H0, Ex.refl _, st, h⟩)
theorem gsw_cons {e : Expr} {es : List Expr} {d : Dt} {ds : List Dt} {T : List Slot → Prop} (h : GW X g Fr e d S fun S1 => GsW X g Fr es ds S1 T) (hs : (assignEach (e :: es) X.env).map (·.2) = assign e X.env :: (assignEach es X.env).map (·.2) := by rfl) : GsW X g Fr (e :: es) (d :: ds) S T :=
  fun σ H0 H vs st r => gssem_of (pgs_cons pg_sem pgs_sem hs) (by
    cases r with
    | cons r1 r2 => exact ⟨_, _, rfl, gsem_mono (h σ H0 H _ st r1) fun σ' H' ⟨S1, H01, e1, st1, q⟩ => gssem_mono (q σ' H01 H' _ st1 (r2.mono e1)) fun _ _ z => z.back e1⟩)
theorem gw_tup {es : List Expr} {k : Nat} {ds : List Dt} {T : List Slot → Prop} (hc : X.calm = true) (h : GsW X g Fr es ds S T) (hn : (assignEach es X.env).length = ds.length := by rfl) (hst : (assignEach es X.env).findIdx? (·.1) = none := by rfl) : GW X g Fr (.Tuple es k pos) (.tup ds) S T :=
  fun σ H0 H v st r => gsem_of (pg_tup hc pgs_sem hn hst) (by
    cases r with
    | tup e l => exact ⟨_, _, rfl, st_of (st.ex _ _ e), l.length, h σ H0 H _ st l⟩)

/-! ### small statements -/
theorem sw_nil (h : D.nx S) : SW X g Fr [] S D := fun σ H0 H st => semSs_of pss_nil ⟨S, H0, Ex.refl _, st, h⟩
theorem sw_cons {st : Stmt} {rest : List Stmt} (h : S1 X g Fr st S { D with nx := fun S2 => SW X g Fr rest S2 D }) : SW X g Fr (st :: rest) S D := fun σ H0 H s0 => semSs_of (pss_cons ps_sem pss_sem) (semS_mono (h σ H0 H s0) ⟨fun σ' H' ⟨S2, H02, e2, st2, q⟩ => semSs_mono (q σ' H02 H' st2) (ends_back e2), fun _ _ q => q, fun _ _ q => q, fun _ _ q => q⟩)
theorem SW.mono {sts : List Stmt} {D' : DE} (h : SW X g Fr sts S D) (h1 : ∀ S, D.nx S → D'.nx S) (h2 : ∀ r S, D.rt r S → D'.rt r S) (h3 : ∀ S, D.bk S → D'.bk S) (h4 : ∀ S, D.ct S → D'.ct S) : SW X g Fr sts S D' := fun σ H0 H st =>
  semSs_mono (h σ H0 H st) ⟨fun _ _ ⟨S1, H1, e, s1, q⟩ => ⟨S1, H1, e, s1, h1 _ q⟩, fun _ _ ⟨r, S1, σ1, H1, e, s1, q⟩ => ⟨r, S1, σ1, H1, e, s1, h2 _ _ q⟩, fun _ _ ⟨S1, H1, e, s1, q⟩ => ⟨S1, H1, e, s1, h3 _ q⟩, fun _ _ ⟨S1, H1, e, s1, q⟩ => ⟨S1, H1, e, s1, h4 _ q⟩⟩
theorem s_set (i : Nat) {x : Str} {e : Expr} {p' : Pos} (hN : X.N.Nodup) (h : EF X g Fr e S fun r S1 => D.nx (S1.set i r)) (hi : X.N[i]? = some x := by rfl) (hx : Loc X.env.scope x := by first | exact Or.inl rfl | exact Or.inr rfl)
    (hs : swapsWith e (some (.Name x p')) pos.line X.env = pure false := by rfl) (hf : X.fn x = true ∨ X.env.scope.names.lookup x = some .local := by first | exact .inl rfl | exact .inr rfl) : S1 X g Fr (.Assign [.Name x p'] e pos) S D :=
  fun σ H0 H st => semS_of (ps_set hN hi hx pe_sem hs hf) (fun pins s I => by
    have hl : i < X.N.length := (List.getElem?_eq_some_iff.mp hi).1
    have hσ := I.len
    exact sem_mono (h σ H0 H st) (fun v H1 ⟨r, S1, H01, e1, st1, q⟩ => ⟨S1.set i r, H01, e1, st1.take (by have := st1.len; simp at this; omega), q⟩) pins s I)
theorem s_setT {tg e : Expr} (h : EW X g Fr e S fun d S1 => GW X g Fr tg d S1 D.nx) (hs : swapsWithSole [tg] e pos.line X.env = pure false := by rfl) (hw : swappedStores [tg] e X.env = pure none := by rfl) (h1 : (assignEach [tg] X.env).map (·.2) = [assign tg X.env] := by rfl) : S1 X g Fr (.Assign [tg] e pos) S D :=
  fun σ H0 H st => semS_of (ps_asg pe_sem pg_sem hs hw h1) (sem_mono (h σ H0 H st) fun v H1 ⟨d, S1, H01, e1, st1, r, q⟩ => gsem_mono (q σ H01 H1 v st1 r) fun _ _ z => z.back e1)
theorem s_par (i j : Nat) {x y : Str} {a b : Expr} {px py pt : Pos} {kt k2 pt2} (hc : X.calm = true) (hN : X.N.Nodup) (h : AW X g Fr [a, b] S fun ss S1 => ∃ d1 d2, ss = [.im d1, .im d2] ∧ D.nx ((S1.set i (.im d1)).set j (.im d2))) (hi : X.N[i]? = some x := by rfl) (hj : X.N[j]? = some y := by rfl) (hij : i ≠ j := by decide)
    (hx : X.env.scope.names.lookup x = some .local := by rfl) (hy : X.env.scope.names.lookup y = some .local := by rfl) (hw : swappedStores [.Tuple [.Name x px, .Name y py] kt pt] (.Tuple [a, b] k2 pt2) X.env = pure (some [x, y]) := by rfl)
    (hs : swapsWithSole [.Tuple [.Name x px, .Name y py] kt pt] (.Tuple [a, b] k2 pt2) pos.line X.env = pure false := by rfl) : S1 X g Fr (.Assign [.Tuple [.Name x px, .Name y py] kt pt] (.Tuple [a, b] k2 pt2) pos) S D :=
  fun σ H0 H st => semS_of (ps_par hc hN hi hj hij hx hy pa_sem hw hs) (semA_mono (h σ H0 H st) fun vs H1 ⟨ss, S1, H01, e1, st1, ra, d1, d2, es, q⟩ => by
    subst es
    obtain ⟨v, w, rfl, r1, r2⟩ := arg2 ra
    exact ⟨v, w, rfl, _, H01, e1, (st1.set_im r1).set_im r2, q⟩)
theorem arg3 {K : PySem.W.Frag} {H0 : Hp} {vs : List V} {d e f : Dt} (r : ArgR K g H0 S vs [.im d, .im e, .im f]) : ∃ v w u, vs = [v, w, u] ∧ Rep K g H0 v d ∧ Rep K g H0 w e ∧ Rep K g H0 u f := by
  cases r with
  | im r t => obtain ⟨w, u, rfl, q⟩ := arg2 t; exact ⟨_, w, u, rfl, r, q⟩
theorem s_par3 (i j l : Nat) {x y z : Str} {a b c : Expr} {px py pz pt : Pos} {kt k2 pt2} (hc : X.calm = true) (hN : X.N.Nodup) (h : AW X g Fr [a, b, c] S fun ss S1 => ∃ d1 d2 d3, ss = [.im d1, .im d2, .im d3] ∧ D.nx (((S1.set i (.im d1)).set j (.im d2)).set l (.im d3))) (hi : X.N[i]? = some x := by rfl) (hj : X.N[j]? = some y := by rfl) (hl : X.N[l]? = some z := by rfl)
    (hij : i ≠ j := by decide) (hil : i ≠ l := by decide) (hjl : j ≠ l := by decide)
    (hx : X.env.scope.names.lookup x = some .local := by rfl) (hy : X.env.scope.names.lookup y = some .local := by rfl) (hz : X.env.scope.names.lookup z = some .local := by rfl) (hw : swappedStores [.Tuple [.Name x px, .Name y py, .Name z pz] kt pt] (.Tuple [a, b, c] k2 pt2) X.env = pure (some [x, y, z]) := by rfl)
    (hs : swapsWithSole [.Tuple [.Name x px, .Name y py, .Name z pz] kt pt] (.Tuple [a, b, c] k2 pt2) pos.line X.env = pure false := by rfl) : S1 X g Fr (.Assign [.Tuple [.Name x px, .Name y py, .Name z pz] kt pt] (.Tuple [a, b, c] k2 pt2) pos) S D :=
  fun σ H0 H st => semS_of (ps_par3 hc hN hi hj hl hij hil hjl hx hy hz pa_sem hw hs) (semA_mono (h σ H0 H st) fun vs H1 ⟨ss, S1, H01, e1, st1, ra, d1, d2, d3, es, q⟩ => by
    subst es
    obtain ⟨v, w, u, rfl, r1, r2, r3⟩ := arg3 ra
    exact ⟨v, w, u, rfl, _, H01, e1, ((st1.set_im r1).set_im r2).set_im r3, q⟩)
theorem s_ret {e : Expr} (h : EF X g Fr e S D.rt) : S1 X g Fr (.Return (some e) pos) S D := fun σ H0 H st => semS_of (ps_ret pe_sem) (sem_mono (h σ H0 H st) fun v H1 ⟨r, S1, H01, e1, st1, q⟩ => ⟨r, S1, σ, H01, e1, st1, q⟩)
theorem s_retN (h : D.rt (.im .non) S) : S1 X g Fr (.Return none pos) S D := fun σ H0 H st => semS_of ps_retN ⟨.im .non, S, σ, H0, Ex.refl _, st.snoc_im .non, h⟩
theorem s_expr {e : Expr} (h : EW X g Fr e S fun _ S1 => D.nx S1) (hs : swapsWith e none pos.line X.env = pure false := by rfl) : S1 X g Fr (.Expr e pos) S D := fun σ H0 H st => semS_of (ps_expr pe_sem hs) (sem_mono (h σ H0 H st) fun v H1 ⟨d, S1, H01, e1, st1, r, q⟩ => ⟨S1, H01, e1, st1, q⟩)
theorem s_if {c : Expr} {a b : List Stmt} (h : TW X g Fr c S fun k S1 => (k = true → SW X g Fr a S1 D) ∧ (k = false → SW X g Fr b S1 D)) : S1 X g Fr (.If c a b pos) S D :=
  fun σ H0 H st => semS_of (ps_if pt_sem pss_sem pss_sem) (semT_mono (h σ H0 H st) fun k H1 ⟨S1, H01, e1, st1, ht, hf⟩ => by
    cases k with
    | true => rw [if_pos rfl]; exact semSs_mono (ht rfl σ H01 H1 st1) (ends_back e1)
    | false => rw [if_neg Bool.false_ne_true]; exact semSs_mono (hf rfl σ H01 H1 st1) (ends_back e1))
theorem s_pass (h : D.nx S) : S1 X g Fr (.Pass pos) S D := fun σ H0 H st => semS_of ps_pass ⟨S, H0, Ex.refl _, st, h⟩
/-- the name's own list, its place changed -/
theorem own_put {K : PySem.W.Frag} {σ : L2.St} {H0 H : Hp} {i : Nat} {p : Addr} {ds es : List Dt} {vs : List V} (st : StR K g Fr H0 H σ S) (hS : S[i]? = some (.own p (.lst ds))) (r : RepL K g H0 vs es) : StR K g Fr H0 (upd H p (.lst vs)) σ (S.set i (.own p (.lst es))) := by
  have hi : i < S.length := (List.getElem?_eq_some_iff.mp hS).1
  have hp := st.free p (mem_fp (List.mem_iff_getElem?.mpr ⟨i, hS⟩) (by simp [Slot.fp, OD.fp]))
  have same : ∀ (S : List Slot) (i : Nat), S[i]? = some (.own p (.lst ds)) → (S.set i (.own p (.lst es))).flatMap Slot.fp = S.flatMap Slot.fp := by
    intro S
    induction S with
    | nil => intro i h; simp at h
    | cons s t ih =>
      intro i h
      cases i with
      | zero => simp at h; subst h; simp [Slot.fp, OD.fp]
      | succ i => simp only [List.set_cons_succ, List.flatMap_cons]; rw [ih i (by simpa using h)]
  refine ⟨st.ex.mut hp.1, st.fr.mut hp.2, st.dis, by simp [st.len], fun j s h => ?_, by rw [same S i hS]; exact st.nd, fun a ha => st.free a (by rw [same S i hS] at ha; exact ha)⟩
  by_cases e : i = j
  · subst e
    rw [List.getElem?_set_self hi] at h
    cases h
    exact ⟨(st.own_at hS).1, vs, upd_same, r⟩
  · rw [List.getElem?_set_ne e] at h
    refine (st.sl j s h).keep (Ex.refl _) fun a ha u hu => ?_
    rw [upd_ne]
    · exact hu
    · intro e2
      subst e2
      have nd := st.nd
      have ndx : ∀ (S : List Slot) (i j : Nat) (s t : Slot), i ≠ j → S[i]? = some s → S[j]? = some t → (S.flatMap Slot.fp).Nodup → a ∈ s.fp → a ∈ t.fp → False := by
        intro S
        induction S with
        | nil => intro i j s t _ h; simp at h
        | cons x l ih =>
          intro i j s t ne h1 h2 nd m1 m2
          rw [List.flatMap_cons] at nd
          obtain ⟨n1, n2, n3⟩ := List.nodup_append.mp nd
          cases i with
          | zero =>
            cases j with
            | zero => exact ne rfl
            | succ j => simp at h1 h2; subst h1; exact n3 a m1 a (mem_fp (List.mem_iff_getElem?.mpr ⟨j, h2⟩) m2) rfl
          | succ i =>
            cases j with
            | zero => simp at h1 h2; subst h2; exact n3 a m2 a (mem_fp (List.mem_iff_getElem?.mpr ⟨i, h1⟩) m1) rfl
            | succ j => exact ih i j s t (by omega) (by simpa using h1) (by simpa using h2) n2 m1 m2
      exact ndx S i j _ _ e hS h nd (by simp [Slot.fp, OD.fp]) ha
/-- xs.append(e), the list the name's own -/
theorem s_app (i : Nat) {x : Str} {e : Expr} {p : Addr} {ds0 : List Dt} {xp apos cpos : Pos} (hS : S[i]? = some (.own p (.lst ds0))) (h : EW X g Fr e S fun d S1 => ∃ ds, S1[i]? = some (.own p (.lst ds)) ∧ ds.length < 100000 ∧ D.nx (S1.set i (.own p (.lst (ds ++ [d])))))
    (hN : X.N[i]? = some x := by rfl) (hv : Vis X.env.scope x := by first | exact Or.inl rfl | exact Or.inr (Or.inl rfl) | exact Or.inr (Or.inr rfl)) (hd : (x == ("__debug__" : Str)) = false := by decide) (hcd : (x == ("__classdict__" : Str)) = false := by decide)
    (hs : swapsWith (.Call (.Attribute (.Name x xp) "append" apos) [e] [] cpos) none pos.line X.env = pure false := by rfl)
    (hbase : attributeBase (.Name x xp) "append" X.env (eval (.Name x xp) X.env) = eval (.Name x xp) X.env := by rfl)
    (hfew : ((backTo cpos (starEach (e :: []) X.env)).all (fun x => !x.1) && (backToKw cpos (keywordEach [] X.env)).all (fun x => x.1.isSome) && decide ((e :: []).length + ([] : List Keyword).length + (if ([] : List Keyword).isEmpty then 0 else 1) < 30)) = true := by rfl)
    (hline : (apos.endLine == cpos.line) = true := by rfl) (hs1 : starEach (e :: []) X.env = (false, eval e X.env) :: starEach [] X.env := by rfl) (hplain : (backTo cpos (starEach [] X.env)).any (·.1) = false := by rfl) :
    S1 X g Fr (.Expr (.Call (.Attribute (.Name x xp) "append" apos) [e] [] cpos) pos) S D :=
  fun σ H0 H st => semS_of (ps_expr (pe_bm PySem.F.plainAttrs_list PySem.F.slot_list_append PySem.F.type_list_append mt_append (pe_var hN hv hd hcd) (pa_cons pe_sem pa_nil hs1) hbase hfew hline hs1 hplain) hs) (by
    obtain ⟨e0, _⟩ := st.own_at hS
    refine ⟨.ref p, e0, ?_, ?_⟩
    · obtain ⟨_, vs, h1, _⟩ := st.own_at hS; exact .inl ⟨rfl, vs, sq_of h1⟩
    · refine sem_mono (h σ H0 H st) fun v H1 ⟨d, S1, H01, e1, st1, r, ds, hS1, hl, q⟩ => ?_
      obtain ⟨_, vs, h1, h2⟩ := st1.own_at hS1
      exact ⟨p, vs, v, rfl, rfl, h1, by rw [h2.length]; exact Nat.lt_of_lt_of_le hl (by decide), _, H01, e1, own_put st1 hS1 (h2.append (.cons r .nil)), q⟩)
end
end DL

set_option Elab.async false
set_option linter.all false
set_option autoImplicit false
set_option maxRecDepth 100000
set_option maxHeartbeats 2000000
/-! The data layer, sixth part: what is walked, loops, comprehensions, a def by its body. -/
namespace DL
open PySem PySem.Spec PyProof.Rows L2 PK

/-- the walk yields these data, one after another -/
structure Walks (K : PySem.W.Frag) (g : Cl) (J : It) (H0 : Hp) (xs : List Dt) : Prop where
  go : ∀ i H, Ex H0 H → i < xs.length → J.go i H
  stop : ∀ i H, Ex H0 H → xs.length ≤ i → J.stop i H
  yld : ∀ i H x H', Ex H0 H → i < xs.length → J.yld i H x H' → ∃ d, xs[i]? = some d ∧ ((H' = H ∧ Rep K g H0 x d) ∨ ∃ p o, x = .ref p ∧ H p = none ∧ H' = upd H p o ∧ ∀ H1, Ex H0 H1 → H1 p = some o → Rep K g H1 (.ref p) d)
theorem Walks.mono {K : PySem.W.Frag} {g : Cl} {J : It} {H0 H1 : Hp} {xs : List Dt} (w : Walks K g J H0 xs) (e : Ex H0 H1) : Walks K g J H1 xs :=
  ⟨fun i H h => w.go i H (e.trans h), fun i H h => w.stop i H (e.trans h), fun i H x H' h hi y => by
    obtain ⟨d, h1, h2⟩ := w.yld i H x H' (e.trans h) hi y
    refine ⟨d, h1, ?_⟩
    rcases h2 with ⟨a, b⟩ | ⟨p, o, a, b, c, k⟩
    · exact .inl ⟨a, b.mono e⟩
    · exact .inr ⟨p, o, a, b, c, fun H2 e2 => k H2 (e.trans e2)⟩⟩
section
variable (X : Cx) (g : Cl) (Fr : Hp)
def iSem (tg iter : Expr) : TI := fun σ H R => ∀ pins s, Inv X pins σ H s → wpAny (model X.prog X.w) X.A (eval iter X.env) (fun v s1 => wpAny (model X.prog X.w) X.A (pyIter v) (PIE X pins σ tg R) X.xe s1) X.xe s
def IW (tg iter : Expr) (S : List Slot) (P : List Dt → List Slot → Prop) : Prop := ∀ σ H0 H, StR X.K g Fr H0 H σ S → iSem X tg iter σ H fun J H' => ∃ xs S' H0', Ex H0 H0' ∧ StR X.K g Fr H0' H' σ S' ∧ Walks X.K g J H0' xs ∧ P xs S'
end
section
variable {X : Cx} {g : Cl} {Fr : Hp} {S : List Slot} {D : DE} {pos : Pos} {tg iter : Expr} {P : List Dt → List Slot → Prop}
theorem pi_sem : PI X tg iter (iSem X tg iter) := ⟨fun pins s _ _ _ I h => h pins s I⟩
theorem isem_of {wi : TI} {σ : L2.St} {H : Hp} {R : It → Hp → Prop} (h : PI X tg iter wi) (q : wi σ H R) : iSem X tg iter σ H R := fun pins s I => h.run pins s σ H R I q
theorem isem_mono {σ : L2.St} {H : Hp} {R R' : It → Hp → Prop} (h : iSem X tg iter σ H R) (k : ∀ J H, R J H → R' J H) : iSem X tg iter σ H R' := fun pins s I => thn (h pins s I) fun v s1 h1 => thn h1 fun _ _ ⟨it, fp, tn, J, H', a, b, c, d, e, q⟩ => ⟨it, fp, tn, J, H', a, b, c, d, e, k _ _ q⟩
theorem walks_l {K : PySem.W.Frag} {H0 : Hp} {a : Addr} {vs : List V} {ds : List Dt} (h : H0 a = some (.lst vs)) (l : RepL K g H0 vs ds) : Walks K g (Itl K a) H0 ds :=
  ⟨fun i H e hi => ⟨vs, vs[i]'(by rw [l.length]; exact hi), sq_of (e _ _ h), by simp [l.length, hi]⟩, fun i H e hi => ⟨vs, sq_of (e _ _ h), by rw [l.length]; exact hi⟩, fun i H x H' e _ y => by
    obtain ⟨y1, y2⟩ := y
    obtain ⟨d, hd, r⟩ := l.getV (y2 vs (sq_of (e _ _ h)))
    exact ⟨d, hd, .inl ⟨y1, r⟩⟩⟩
theorem walks_t {K : PySem.W.Frag} {H0 : Hp} {a : Addr} {vs : List V} {ds : List Dt} (h : H0 a = some (.tup vs)) (l : RepL K g H0 vs ds) : Walks K g (Itt K a) H0 ds :=
  ⟨fun i H e hi => ⟨vs, vs[i]'(by rw [l.length]; exact hi), st_of (e _ _ h), by simp [l.length, hi]⟩, fun i H e hi => ⟨vs, st_of (e _ _ h), by rw [l.length]; exact hi⟩, fun i H x H' e _ y => by
    obtain ⟨y1, y2⟩ := y
    obtain ⟨d, hd, r⟩ := l.getV (y2 vs (st_of (e _ _ h)))
    exact ⟨d, hd, .inl ⟨y1, r⟩⟩⟩
def rangeD (lo : Int) (n : Nat) : List Dt := (List.range n).map fun i : Nat => Dt.int (lo + (i : Int))
theorem rangeD_get {lo : Int} {n i : Nat} (h : i < n) : (rangeD lo n)[i]? = some (.int (lo + (i : Int))) := by
  unfold rangeD
  rw [List.getElem?_map, List.getElem?_range h]; rfl
theorem rangeD_len {lo : Int} {n : Nat} : (rangeD lo n).length = n := by simp [rangeD]
theorem walks_r {K : PySem.W.Frag} {H0 : Hp} {lo : Int} {n : Nat} : Walks K g (Itr lo n) H0 (rangeD lo n) :=
  ⟨fun i H e hi => by rw [rangeD_len] at hi; exact hi, fun i H e hi => by rw [rangeD_len] at hi; exact hi, fun i H x H' e hi y => by
    obtain ⟨y1, y2⟩ := y
    subst y2
    rw [rangeD_len] at hi
    exact ⟨_, rangeD_get hi, .inl ⟨y1, .int _⟩⟩⟩
theorem iw_l (h : EW X g Fr iter S fun d S1 => ∃ xs, d = .lst xs ∧ P xs S1) : IW X g Fr tg iter S P := fun σ H0 H st => isem_of (pi_list pe_sem) (sem_mono (h σ H0 H st) fun v H1 ⟨d, S1, H01, e1, st1, r, xs, ed, q⟩ => by
  subst ed
  cases r with
  | lst e l => exact ⟨_, rfl, ⟨_, sq_of (st1.ex _ _ e)⟩, xs, S1, H01, e1, st1, walks_l e l, q⟩)
theorem iw_t (h : EW X g Fr iter S fun d S1 => ∃ xs, d = .tup xs ∧ P xs S1) : IW X g Fr tg iter S P := fun σ H0 H st => isem_of (pi_tup pe_sem) (sem_mono (h σ H0 H st) fun v H1 ⟨d, S1, H01, e1, st1, r, xs, ed, q⟩ => by
  subst ed
  cases r with
  | tup e l => exact ⟨_, rfl, ⟨_, st_of (st1.ex _ _ e)⟩, xs, S1, H01, e1, st1, walks_t e l, q⟩)
theorem iw_r1 {a : Expr} {p : Pos} (hm : X.mg "range" = none) (h : EW X g Fr a S fun d S1 => ∃ j, d = .int j ∧ -(2 ^ 62) ≤ j ∧ j < 2 ^ 62 ∧ P (rangeD 0 j.toNat) S1) (hg : Gl X "range" := by rfl) (hs : starEach [a] X.env = [(false, eval a X.env)] := by rfl) (hs2 : starEach (a :: []) X.env = (false, eval a X.env) :: starEach [] X.env := by rfl) :
    IW X g Fr tg (.Call (.Name "range" p) [a] [] pos) S P := fun σ H0 H st => isem_of (pi_range1 hg hm (pa_cons pe_sem pa_nil hs2) hs) (sem_mono (h σ H0 H st) fun v H1 ⟨d, S1, H01, e1, st1, r, j, ed, b1, b2, q⟩ => by
  subst ed
  cases r
  exact ⟨j, rfl, b1, b2, _, S1, H01, e1, st1, walks_r, q⟩)
theorem iw_r2 {a b : Expr} {p : Pos} (hm : X.mg "range" = none) (h : EW X g Fr a S fun d S1 => EW X g Fr b S1 fun d' S2 => ∃ i j, d = .int i ∧ d' = .int j ∧ (-(2 ^ 62) ≤ i ∧ i < 2 ^ 62 ∧ -(2 ^ 62) ≤ j ∧ j < 2 ^ 62) ∧ P (rangeD i (j - i).toNat) S2) (hg : Gl X "range" := by rfl)
    (hs : starEach [a, b] X.env = [(false, eval a X.env), (false, eval b X.env)] := by rfl) (hs2 : starEach [b] X.env = [(false, eval b X.env)] := by rfl) (hs3 : starEach (a :: [b]) X.env = (false, eval a X.env) :: starEach [b] X.env := by rfl) (hs4 : starEach (b :: []) X.env = (false, eval b X.env) :: starEach [] X.env := by rfl) :
    IW X g Fr tg (.Call (.Name "range" p) [a, b] [] pos) S P := fun σ H0 H st => isem_of (pi_range2 hg hm (pa_cons pe_sem (pa_cons pe_sem pa_nil hs4) hs3) hs hs2) (sem_mono (h σ H0 H st) fun v H1 ⟨d, S1, H01, e1, st1, r, h1⟩ => sem_mono (h1 σ H01 H1 st1) fun v2 H2 ⟨d2, S2, H02, e2, st2, r2, i, j, ed, ed2, b1, q⟩ => by
  subst ed ed2
  cases r
  cases r2
  exact ⟨i, j, rfl, b1, _, S2, H02, e1.trans e2, st2, walks_r, q⟩)

/-! ### loops -/
theorem s_for {body : List Stmt} (hc : X.calm = true) (h : IW X g Fr tg iter S fun xs S1 => ∃ Pv : Nat → List Slot → Prop, Pv 0 S1 ∧
      (∀ i x S', xs[i]? = some x → Pv i S' → GW X g Fr tg x S' fun S2 => SW X g Fr body S2 { nx := Pv (i + 1), rt := D.rt, bk := D.nx, ct := Pv (i + 1) }) ∧ ∀ S', Pv xs.length S' → D.nx S')
    (hp : PassesOwn (model X.prog X.w) X.A X.env X.xe := by exact PassesOwn.never) (hs : ∀ x, foldedSetIterable iter X.env x = pure x := by intro _; rfl) : S1 X g Fr (.For tg iter body [] pos) S D :=
  fun σ H0 H st => semS_of (ps_for hp hc pi_sem pg_sem pss_sem hs) (isem_mono (h σ H0 H st) fun J H1 ⟨xs, S1, H01, e1, st1, w, Pv, p0, turn, out⟩ => by
    refine ⟨fun i m σ H => m = xs.length - i ∧ i ≤ xs.length ∧ ∃ S' H0', Ex H01 H0' ∧ StR X.K g Fr H0' H σ S' ∧ Pv i S', ⟨xs.length, by simp, Nat.zero_le _, S1, H01, Ex.refl _, st1, p0⟩, ?_⟩
    rintro i m σ2 H2 ⟨rfl, hi, S2, H02, e2, st2, p⟩
    have w2 := w.mono e2
    by_cases hlt : i < xs.length
    · refine .inr ⟨w2.go i H2 st2.ex hlt, nxP X.K g Fr H01 (Pv (i + 1)), fun σ' H' ⟨S3, H03, e3, st3, p3⟩ => ⟨xs.length - (i + 1), by omega, rfl, hlt, S3, H03, e3, st3, p3⟩, fun x H' y => ?_⟩
      obtain ⟨d, hd, alt⟩ := w2.yld i H2 x H' st2.ex hlt y
      have key : ∀ H0b, Ex H02 H0b → StR X.K g Fr H0b H' σ2 S2 → Rep X.K g H0b x d → gSem X tg x σ2 H' fun σ3 H3 => tSemSs X body { ends X.K g Fr H0 D with nx := nxP X.K g Fr H01 (Pv (i + 1)), ct := nxP X.K g Fr H01 (Pv (i + 1)), bk := (ends X.K g Fr H0 D).nx } σ3 H3 := fun H0b eb stb rb =>
        gsem_mono (turn i d S2 hd p σ2 H0b H' x stb rb) fun σ3 H3 ⟨S3, H03, e3, st3, q⟩ => semSs_mono (q σ3 H03 H3 st3)
          ⟨fun _ _ z => nxP.back ((e2.trans eb).trans e3) z, fun _ _ ⟨r, S4, σ4, H4, e4, q4⟩ => ⟨r, S4, σ4, H4, (((e1.trans e2).trans eb).trans e3).trans e4, q4⟩, fun _ _ z => nxP.back (((e1.trans e2).trans eb).trans e3) z, fun _ _ z => nxP.back ((e2.trans eb).trans e3) z⟩
      rcases alt with ⟨rfl, r⟩ | ⟨pn, o, rfl, hn, rfl, k⟩
      · exact key H02 (Ex.refl _) st2 r
      · exact key _ (Ex.new (st2.ex.free hn)) (st2.new hn) (k _ (Ex.new (st2.ex.free hn)) upd_same)
    · have ei : i = xs.length := by omega
      subst ei
      exact .inl ⟨w2.stop _ H2 st2.ex (Nat.le_refl _), S2, H02, e1.trans e2, st2, out S2 p⟩)
theorem s_while {c : Expr} {body : List Stmt} (Pv : Nat → List Slot → Prop) (h0 : ∃ m, Pv m S) (h : ∀ m S', Pv m S' → TW X g Fr c S' fun k S2 => (k = true → SW X g Fr body S2 { nx := fun S3 => ∃ m', m' < m ∧ Pv m' S3, rt := D.rt, bk := D.nx, ct := fun S3 => ∃ m', m' < m ∧ Pv m' S3 }) ∧ (k = false → D.nx S2))
    (hp : PassesOwn (model X.prog X.w) X.A X.env X.xe := by exact PassesOwn.never) : S1 X g Fr (.While c body [] pos) S D :=
  fun σ H0 H st => semS_of (ps_while hp pt_sem pss_sem) (by
    obtain ⟨m0, p0⟩ := h0
    refine ⟨fun m σ H => ∃ S' H0', Ex H0 H0' ∧ StR X.K g Fr H0' H σ S' ∧ Pv m S', ⟨m0, S, H0, Ex.refl _, st, p0⟩, ?_⟩
    rintro m σ1 H1 ⟨S1, H01, e1, st1, p⟩
    refine semT_mono (h m S1 p σ1 H01 H1 st1) fun k H2 ⟨S2, H02, e2, st2, ht, hf⟩ => ?_
    cases k with
    | true =>
      rw [if_pos rfl]
      refine ⟨nxP X.K g Fr H0 (fun S3 => ∃ m', m' < m ∧ Pv m' S3), fun σ' H' ⟨S3, H03, e3, st3, m', hm, p3⟩ => ⟨m', hm, S3, H03, e3, st3, p3⟩, semSs_mono (ht rfl σ1 H02 H2 st2)
        ⟨fun _ _ z => nxP.back (e1.trans e2) z, fun _ _ ⟨r, S4, σ4, H4, e4, q4⟩ => ⟨r, S4, σ4, H4, (e1.trans e2).trans e4, q4⟩, fun _ _ z => nxP.back (e1.trans e2) z, fun _ _ z => nxP.back (e1.trans e2) z⟩⟩
    | false => rw [if_neg Bool.false_ne_true]; exact ⟨S2, H02, e1.trans e2, st2, hf rfl⟩)

/-! ### comprehensions -/
def wipeS (S : List Slot) : List Nat → List Slot
  | [] => S
  | v :: vs => (wipeS S vs).set v .no
theorem StR.wipe {K : PySem.W.Frag} {H0 H : Hp} {σ : L2.St} (st : StR K g Fr H0 H σ S) : ∀ vs : List Nat, StR K g Fr H0 H (wipe σ vs) (wipeS S vs)
  | [] => st
  | _ :: vs => (StR.wipe st vs).set_no
/-- a target that stores at these slots alone -/
def GV (X : Cx) (g : Cl) (Fr : Hp) (is : List Nat) (tg : Expr) (d : Dt) (S : List Slot) (T : List Slot → Prop) : Prop := ∀ σ H0 H v, StR X.K g Fr H0 H σ S → Rep X.K g H0 v d → gSem X tg v σ H fun σ' H' => (σ'.length = σ.length ∧ ∀ j, j ∉ is → σ'[j]? = σ[j]?) ∧ nxP X.K g Fr H0 T σ' H'
def GVs (X : Cx) (g : Cl) (Fr : Hp) (is : List Nat) (ts : List Expr) (ds : List Dt) (S : List Slot) (T : List Slot → Prop) : Prop := ∀ σ H0 H vs, StR X.K g Fr H0 H σ S → RepL X.K g H0 vs ds → gsSem X ts vs σ H fun σ' H' => (σ'.length = σ.length ∧ ∀ j, j ∉ is → σ'[j]? = σ[j]?) ∧ nxP X.K g Fr H0 T σ' H'
theorem gv_name {is : List Nat} (i : Nat) {x : Str} {d : Dt} {T : List Slot → Prop} (hN : X.N.Nodup) (h : T (S.set i (.im d))) (hm : i ∈ is := by decide) (hi : X.N[i]? = some x := by rfl) (hx : Loc X.env.scope x := by first | exact Or.inl rfl | exact Or.inr rfl) (hf : X.fn x = true ∨ X.env.scope.names.lookup x = some .local := by first | exact .inl rfl | exact .inr rfl) :
    GV X g Fr is (.Name x pos) d S T := fun σ H0 H v st r => gsem_of (pg_name hN hi hx hf) ⟨⟨by simp, fun j hj => by rw [List.getElem?_set_ne (fun e => hj (by rw [← e]; exact hm))]⟩, _, H0, Ex.refl _, st.set_im r, h⟩
theorem gvs_nil {is : List Nat} {T : List Slot → Prop} (h : T S) : GVs X g Fr is [] [] S T := fun σ H0 H vs st r => gssem_of pgs_nil (by cases r; exact ⟨rfl, ⟨rfl, fun _ _ => rfl⟩, S, H0, Ex.refl _, st, h⟩)
theorem gvs_cons {is : List Nat} {e : Expr} {es : List Expr} {d : Dt} {ds : List Dt} {T : List Slot → Prop} (h : GV X g Fr is e d S fun S1 => GVs X g Fr is es ds S1 T) (hs : (assignEach (e :: es) X.env).map (·.2) = assign e X.env :: (assignEach es X.env).map (·.2) := by rfl) : GVs X g Fr is (e :: es) (d :: ds) S T :=
  fun σ H0 H vs st r => gssem_of (pgs_cons pg_sem pgs_sem hs) (by
    cases r with
    | cons r1 r2 => exact ⟨_, _, rfl, gsem_mono (h σ H0 H _ st r1) fun σ' H' ⟨k1, S1, H01, e1, st1, q⟩ => gssem_mono (q σ' H01 H' _ st1 (r2.mono e1)) fun _ _ ⟨k2, z⟩ => ⟨⟨k2.1.trans k1.1, fun j hj => (k2.2 j hj).trans (k1.2 j hj)⟩, z.back e1⟩⟩)
theorem gv_tup {is : List Nat} {es : List Expr} {k : Nat} {ds : List Dt} {T : List Slot → Prop} (hc : X.calm = true) (h : GVs X g Fr is es ds S T) (hn : (assignEach es X.env).length = ds.length := by rfl) (hst : (assignEach es X.env).findIdx? (·.1) = none := by rfl) : GV X g Fr is (.Tuple es k pos) (.tup ds) S T :=
  fun σ H0 H v st r => gsem_of (pg_tup hc pgs_sem hn hst) (by
    cases r with
    | tup e l => exact ⟨_, _, rfl, st_of (st.ex _ _ e), l.length, h σ H0 H _ st l⟩)
theorem wipe_eq : ∀ {vs : List Nat} {σ σ' : L2.St}, σ'.length = σ.length → (∀ j, j ∉ vs → σ'[j]? = σ[j]?) → wipe σ' vs = wipe σ vs := by
  have aux : ∀ (vs : List Nat) (σ : L2.St) (j : Nat), j < σ.length → (wipe σ vs)[j]? = if j ∈ vs then some none else σ[j]? := by
    intro vs
    induction vs with
    | nil => intro σ j hj; simp [wipe]
    | cons v vs ih =>
      intro σ j hj
      unfold wipe
      by_cases e : v = j
      · subst e; rw [List.getElem?_set_self (by rw [wipe_length]; exact hj)]; simp
      · rw [List.getElem?_set_ne e, ih σ j hj]
        have : (j ∈ v :: vs) ↔ j ∈ vs := by simp [Ne.symm e]
        simp [this]
  intro vs σ σ' hl h
  apply List.ext_getElem?
  intro j
  by_cases hj : j < σ.length
  · rw [aux vs σ' j (by omega), aux vs σ j hj]
    split
    · rfl
    · rename_i hn; exact h j hn
  · rw [List.getElem?_eq_none (by rw [wipe_length]; omega), List.getElem?_eq_none (by rw [wipe_length]; omega)]
/-- none of these slots holds an own object -/
def noOwn (S : List Slot) (vs : List Nat) : Bool := vs.all fun i => match S[i]? with
  | some (.own _ _) => false
  | _ => true
section
variable (X : Cx) (scope : Scope)
def gB (tg : Expr) : TG := fun v σ H Q => ∀ (s : Shared) (H' : Hp) (C : Addr) (cl : List (Str × Addr)) (fp : List Addr), gSem (X.blk s H' scope (compEnvC scope cl C X.env) fp) tg v σ H Q
def eB (e : Expr) : TE := fun σ H Q => ∀ (s : Shared) (H' : Hp) (C : Addr) (cl : List (Str × Addr)) (fp : List Addr), tSem (X.blk s H' scope (compEnvC scope cl C X.env) fp) e σ H Q
/-- a comprehension's tests: none, or one -/
def tB (ifs : List Expr) : TT := fun σ H Q => match ifs with
  | [] => Q true H
  | [c] => ∀ (s : Shared) (H' : Hp) (C : Addr) (cl : List (Str × Addr)) (fp : List Addr), tSemT (X.blk s H' scope (compEnvC scope cl C X.env) fp) c σ H Q
  | _ => False
/-- the tests in data -/
def TsB (g : Cl) (Fr : Hp) (ifs : List Expr) (S : List Slot) (T : Bool → List Slot → Prop) : Prop := match ifs with
  | [] => T true S
  | [c] => ∀ (s : Shared) (H' : Hp) (C : Addr) (cl : List (Str × Addr)) (fp : List Addr), TW (X.blk s H' scope (compEnvC scope cl C X.env) fp) g Fr c S T
  | _ => False
end
theorem StR.frame {K : PySem.W.Frag} {H0 H : Hp} {σ : L2.St} {a : Addr} {o : HO} (st : StR K g Fr H0 H σ S) (h : H a = some o) (h0 : H0 a = none) (hf : a ∉ S.flatMap Slot.fp) : StR K g (upd Fr a o) H0 H σ S := by
  refine ⟨st.ex, fun b u q => ?_, fun b u q => ?_, st.len, st.sl, st.nd, fun b hb => ⟨(st.free b hb).1, ?_⟩⟩
  · by_cases e : b = a
    · subst e; rw [upd_same] at q; cases q; exact h
    · rw [upd_ne e] at q; exact st.fr b u q
  · by_cases e : b = a
    · subst e; exact h0
    · rw [upd_ne e] at q; exact st.dis b u q
  · rw [upd_ne (fun e => hf (by rw [← e]; exact hb))]; exact (st.free b hb).2
/-- another frame, less is asked -/
theorem StR.unframe {K : PySem.W.Frag} {Fr' H0 H : Hp} {σ : L2.St} (st : StR K g Fr' H0 H σ S) (h : Ex Fr Fr') : StR K g Fr H0 H σ S :=
  ⟨st.ex, h.trans st.fr, fun a o q => st.dis a o (h _ _ q), st.len, st.sl, st.nd, fun a ha => ⟨(st.free a ha).1, h.free (st.free a ha).2⟩⟩
/-- what stands for itself becomes a part of what never changes -/
theorem StR.adopt {K : PySem.W.Frag} {H0 H : Hp} {σ : L2.St} {a : Addr} {o : HO} (st : StR K g Fr H0 H σ S) (h : H a = some o) (h0 : H0 a = none) (hr : Fr a = none) (hf : a ∉ S.flatMap Slot.fp) : StR K g Fr (upd H0 a o) H σ S := by
  refine ⟨fun b u q => ?_, st.fr, fun b u q => ?_, st.len, fun i s q => (st.sl i s q).keep (Ex.new h0) fun b _ u z => z, st.nd, fun b hb => ⟨?_, (st.free b hb).2⟩⟩
  · by_cases e : b = a
    · subst e; rw [upd_same] at q; cases q; exact h
    · rw [upd_ne e] at q; exact st.ex b u q
  · rw [upd_ne (fun e => by subst e; rw [hr] at q; cases q)]; exact st.dis b u q
  · rw [upd_ne (fun e => hf (by rw [← e]; exact hb))]; exact (st.free b hb).1
/-- a comprehension's whole obligation in data: Pv by the turn and what is made -/
def LcOb (X : Cx) (g : Cl) (scope : Scope) (vs : List Nat) (tg elt : Expr) (ifs : List Expr) (xs : List Dt) (S1 : List Slot) (Pv : Nat → List Dt → Prop) : Prop :=
  ∀ Fr i x acc, xs[i]? = some x → Pv i acc → ∀ (s : Shared) (H' : Hp) (C : Addr) (cl : List (Str × Addr)) (fp : List Addr), GV (X.blk s H' scope (compEnvC scope cl C X.env) fp) g Fr vs tg x (wipeS S1 vs) fun S2 => TsB X scope g Fr ifs S2 fun b S3 =>
    (b = true → ∀ (s : Shared) (H' : Hp) (C : Addr) (cl : List (Str × Addr)) (fp : List Addr), EW (X.blk s H' scope (compEnvC scope cl C X.env) fp) g Fr elt S3 fun y S4 => wipeS S4 vs = wipeS S1 vs ∧ acc.length < 100000 ∧ Pv (i + 1) (acc ++ [y])) ∧ (b = false → wipeS S3 vs = wipeS S1 vs ∧ Pv (i + 1) acc)
theorem lc_run {elt : Expr} {ifs : List Expr} {scope : Scope} {vs : List Nat} {σ : L2.St} {H0 H : Hp} {Q : VK} (h : IW X g Fr tg iter S fun xs S1 => noOwn S1 vs = true ∧ ∃ Pv : Nat → List Dt → Prop, Pv 0 [] ∧ LcOb X g scope vs tg elt ifs xs S1 Pv ∧ ∀ acc, Pv xs.length acc → P acc S1) (st : StR X.K g Fr H0 H σ S)
    (k : ∀ D H' acc av S1 H0', Ex H0 H0' → StR X.K g Fr H0' H' σ S1 → H' D = some (.lst av) → RepL X.K g H0' av acc → H0' D = none → Fr D = none → D ∉ S1.flatMap Slot.fp → P acc S1 → Q (.ref D) H') :
    tLc (iSem X tg iter) (gB X scope tg) (tB X scope ifs) (eB X scope elt) vs σ H Q := by
  refine isem_mono (h σ H0 H st) fun J H1 ⟨xs, S1, H01, e1, st1, w, no, Pv, p0, ob, out⟩ D hD => ?_
  have hD0 : H01 D = none := st1.ex.free hD
  have hDF : Fr D = none := st1.fr.free hD
  have hDS : D ∉ S1.flatMap Slot.fp := notin_fp st1 hD
  have subS : ∀ (S : List Slot) (vs : List Nat), ((wipeS S vs).flatMap Slot.fp).Sublist (S.flatMap Slot.fp) := by
    intro S vs
    induction vs with
    | nil => exact List.Sublist.refl _
    | cons v vs ih => exact sub_no.trans ih
  have hDW : D ∉ (wipeS S1 vs).flatMap Slot.fp := fun m => hDS ((subS S1 vs).subset m)
  -- the state of a turn
  let W : Nat → Nat → Hp → Prop := fun i m H2 => m = xs.length - i ∧ i ≤ xs.length ∧ ∃ acc av H02, Ex H01 H02 ∧ StR X.K g (upd Fr D (.lst av)) H02 H2 (wipe σ vs) (wipeS S1 vs) ∧ RepL X.K g H02 av acc ∧ Pv i acc
  refine ⟨W, ⟨xs.length, by simp, Nat.zero_le _, [], [], H01, Ex.refl _, ?_, .nil, p0⟩, ?_⟩
  · exact ((st1.grow (Ex.new hD)).wipe vs).frame upd_same hD0 hDW
  · rintro i m H2 ⟨rfl, hi, acc, av, H02, e2, st2, ra, p⟩
    have w2 := w.mono e2
    have hDav : H2 D = some (.lst av) := st2.fr _ _ upd_same
    have hD02 : H02 D = none := st2.dis _ _ upd_same
    by_cases hlt : i < xs.length
    · refine .inr ⟨w2.go i H2 st2.ex hlt, fun H3 => ∃ m', m' < xs.length - i ∧ W (i + 1) m' H3, fun H' z => z, fun x H' y => ?_⟩
      obtain ⟨d, hd, alt⟩ := w2.yld i H2 x H' st2.ex hlt y
      have key : ∀ H0b, Ex H02 H0b → StR X.K g (upd Fr D (.lst av)) H0b H' (wipe σ vs) (wipeS S1 vs) → Rep X.K g H0b x d → gB X scope tg x (wipe σ vs) H' fun σ3 H3 => wipe σ3 vs = wipe σ vs ∧ tB X scope ifs σ3 H3 fun b H4 =>
          if b = true then eB X scope elt σ3 H4 fun y H5 => ∃ acc, H5 D = some (.lst acc) ∧ acc.length < sizeLine ∧ ∃ m', m' < xs.length - i ∧ W (i + 1) m' (upd H5 D (.lst (acc ++ [y]))) else ∃ m', m' < xs.length - i ∧ W (i + 1) m' H4 := fun H0b eb stb rb s' Hs C cl fp =>
        gsem_mono (ob _ i d acc hd p s' Hs C cl fp (wipe σ vs) H0b H' x stb rb) fun σ3 H3 ⟨kk, S3, H03, e3, st3, ts⟩ => by
          have weq : wipe σ3 vs = wipe σ vs := by
            have h1 := wipe_eq (vs := vs) kk.1 kk.2
            rw [h1]
            refine wipe_eq (by rw [wipe_length]) fun j hj => ?_
            have aux : ∀ (vs : List Nat) (j : Nat), j ∉ vs → (wipe σ vs)[j]? = σ[j]? := by
              intro vs
              induction vs with
              | nil => intro j _; rfl
              | cons v vs ih => intro j hj; unfold wipe; rw [List.getElem?_set_ne (fun e => hj (by rw [← e]; simp))]; exact ih j (fun m => hj (List.mem_cons_of_mem _ m))
            exact aux vs j hj
          refine ⟨weq, ?_⟩
          have fin : ∀ b H4 S4 H04, Ex H03 H04 → StR X.K g (upd Fr D (.lst av)) H04 H4 σ3 S4 → ((b = true → ∀ (s : Shared) (H' : Hp) (C : Addr) (cl : List (Str × Addr)) (fp : List Addr), EW (X.blk s H' scope (compEnvC scope cl C X.env) fp) g (upd Fr D (.lst av)) elt S4 fun y S5 => wipeS S5 vs = wipeS S1 vs ∧ acc.length < 100000 ∧ Pv (i + 1) (acc ++ [y])) ∧ (b = false → wipeS S4 vs = wipeS S1 vs ∧ Pv (i + 1) acc)) →
              if b = true then eB X scope elt σ3 H4 fun y H5 => ∃ acc, H5 D = some (.lst acc) ∧ acc.length < sizeLine ∧ ∃ m', m' < xs.length - i ∧ W (i + 1) m' (upd H5 D (.lst (acc ++ [y]))) else ∃ m', m' < xs.length - i ∧ W (i + 1) m' H4 := fun b H4 S4 H04 e4 st4 q => by
            cases b with
            | false =>
              rw [if_neg Bool.false_ne_true]
              obtain ⟨q1, q2⟩ := q.2 rfl
              have st5 := st4.wipe vs
              rw [weq, q1] at st5
              exact ⟨xs.length - (i + 1), by omega, rfl, hlt, acc, av, H04, ((e2.trans eb).trans e3).trans e4, st5, ra.mono ((eb.trans e3).trans e4), q2⟩
            | true =>
              rw [if_pos rfl]
              intro s'' Hs' C' cl' fp'
              refine sem_mono (q.1 rfl s'' Hs' C' cl' fp' σ3 H04 H4 st4) fun y H5 ⟨dy, S5, H05, e5, st5, ry, q1, q2, q3⟩ => ?_
              have hD5 : H5 D = some (.lst av) := st5.fr _ _ upd_same
              have hD05 : H05 D = none := st5.dis _ _ upd_same
              have st6 := st5.wipe vs
              rw [weq, q1] at st6
              have ex05 := (((e2.trans eb).trans e3).trans e4).trans e5
              have ra5 := ra.mono (((eb.trans e3).trans e4).trans e5)
              refine ⟨av, hD5, by rw [ra.length]; exact Nat.lt_of_lt_of_le q2 (by decide), xs.length - (i + 1), by omega, rfl, hlt, acc ++ [dy], av ++ [y], H05, ex05, ?_, ra5.append (.cons ry .nil), q3⟩
              refine ⟨st6.ex.mut hD05, fun b u z => ?_, fun b u z => ?_, st6.len, fun j s z => (st6.sl j s z).keep (Ex.refl _) fun b hb u hu => ?_, st6.nd, fun b hb => ⟨(st6.free b hb).1, ?_⟩⟩
              · by_cases e : b = D
                · subst e; rw [upd_same] at z ⊢; exact z
                · rw [upd_ne e] at z ⊢; exact st6.fr b u (by rw [upd_ne e]; exact z)
              · by_cases e : b = D
                · subst e; exact hD05
                · rw [upd_ne e] at z; exact st6.dis b u (by rw [upd_ne e]; exact z)
              · rw [upd_ne]
                · exact hu
                · intro e; subst e; exact hDW (mem_fp (List.mem_iff_getElem?.mpr ⟨j, z⟩) hb)
              · have : b ≠ D := fun e => hDW (e ▸ hb)
                have q := (st6.free b hb).2
                rw [upd_ne this] at q ⊢
                exact q
          match ifs, ts with
          | [], ts => exact fin true H3 S3 H03 (Ex.refl _) st3 ts
          | [c], ts => exact fun s'' Hs' C' cl' fp' => semT_mono (ts s'' Hs' C' cl' fp' σ3 H03 H3 st3) fun b H4 ⟨S4, H04, e4, st4, q⟩ => fin b H4 S4 H04 e4 st4 q
      rcases alt with ⟨rfl, r⟩ | ⟨pn, o, rfl, hn, rfl, kk⟩
      · exact key H02 (Ex.refl _) st2 r
      · exact key _ (Ex.new (st2.ex.free hn)) (st2.new hn) (kk _ (Ex.new (st2.ex.free hn)) upd_same)
    · have ei : i = xs.length := by omega
      subst ei
      refine .inl ⟨w2.stop _ H2 st2.ex (Nat.le_refl _), k D H2 acc av S1 H02 (e1.trans e2) ?_ hDav ra hD02 hDF hDS (out acc p)⟩
      have st3 := st2.unframe (Fr := Fr) (Ex.new hDF)
      refine ⟨st3.ex, st3.fr, st3.dis, st1.len, fun j s hj => ?_, st1.nd, fun a ha => ?_⟩
      · cases s with
        | no => trivial
        | im d => obtain ⟨v, h1, h2⟩ := st1.sl j _ hj; exact ⟨v, h1, h2.mono e2⟩
        | own p o =>
          have hj2 : (wipeS S1 vs)[j]? = some (.own p o) := by
            have aux : ∀ vs : List Nat, j ∉ vs → (wipeS S1 vs)[j]? = S1[j]? := by
              intro vs
              induction vs with
              | nil => intro _; rfl
              | cons v vs ih => intro hj; unfold wipeS; rw [List.getElem?_set_ne (fun e => hj (by rw [← e]; simp))]; exact ih (fun m => hj (List.mem_cons_of_mem _ m))
            rw [aux vs (fun m => ?_)]
            · exact hj
            · have := List.all_eq_true.mp no j m
              rw [hj] at this
              cases this
          exact ⟨(st1.own_at hj).1, (st3.own_at hj2).2⟩
      · have hsub : ∀ (a : Addr), a ∈ S1.flatMap Slot.fp → a ∈ (wipeS S1 vs).flatMap Slot.fp := fun a ha => by
          obtain ⟨s, hs, m⟩ := List.mem_flatMap.mp ha
          obtain ⟨j, hj⟩ := List.mem_iff_getElem?.mp hs
          cases s with
          | no => simp [Slot.fp] at m
          | im d => simp [Slot.fp] at m
          | own p o =>
            have aux : ∀ vs : List Nat, j ∉ vs → (wipeS S1 vs)[j]? = S1[j]? := by
              intro vs
              induction vs with
              | nil => intro _; rfl
              | cons v vs ih => intro hj; unfold wipeS; rw [List.getElem?_set_ne (fun e => hj (by rw [← e]; simp))]; exact ih (fun m => hj (List.mem_cons_of_mem _ m))
            have hjv : j ∉ vs := fun m => by
              have := List.all_eq_true.mp no j m
              rw [hj] at this
              cases this
            exact mem_fp (List.mem_iff_getElem?.mpr ⟨j, by rw [aux vs hjv]; exact hj⟩) m
        exact st3.free a (hsub a ha)
variable {R : Dt → List Slot → Prop} {T : Slot → List Slot → Prop}
theorem pts_b {ifs : List Expr} {scope : Scope} (h : ifs.length ≤ 1) (s : Shared) (H : Hp) (C : Addr) (cl : List (Str × Addr)) (fp : List Addr) : PTs (X.blk s H scope (compEnvC scope cl C X.env) fp) ifs (tB X scope ifs) := by
  match ifs, h with
  | [], _ => exact pts_nil
  | [c], _ => exact pts_one ⟨fun pins s1 σ H1 Q I hw => hw s H C cl fp pins s1 I⟩
/-- [elt for tg in iter if ..] -/
theorem ew_lc {elt : Expr} {ifs : List Expr} {scope : Scope} (own : List (Str × Nat)) (hc : X.calm = true) (hN : X.N.Nodup) (ok : BlkOk X.N X.env.scope scope own)
    (h : IW X g Fr tg iter S fun xs S1 => noOwn S1 (own.map (·.2)) = true ∧ ∃ Pv : Nat → List Dt → Prop, Pv 0 [] ∧ LcOb X g scope (own.map (·.2)) tg elt ifs xs S1 Pv ∧ ∀ acc, Pv xs.length acc → R (.lst acc) S1) (hi : ifs.length ≤ 1 := by decide)
    (hs : ∀ x, foldedSetIterable iter X.env x = pure x := by intro _; rfl) : EW X g Fr (.ListComp elt [⟨tg, iter, ifs, 0⟩] scope pos) S R :=
  ew_of (pe_lc hc hN pi_sem ok (fun s H C cl fp => ⟨fun pins s1 σ H1 v u Q I r hw => hw s H C cl fp pins s1 u I r⟩) (pts_b hi) (fun s H C cl fp => ⟨fun pins s1 σ H1 Q I hw => hw s H C cl fp pins s1 I⟩) hs) fun σ H0 H st =>
    lc_run (P := fun acc S1 => R (.lst acc) S1) h st fun D H' acc av S1 H0' e st' hD ra h0 hF hS q => ⟨.lst acc, S1, upd H0' D (.lst av), e.trans (Ex.new h0), st'.adopt hD h0 hF hS, .lst upd_same (ra.mono (Ex.new h0)), q⟩
theorem ef_lc {elt : Expr} {ifs : List Expr} {scope : Scope} (own : List (Str × Nat)) (hc : X.calm = true) (hN : X.N.Nodup) (ok : BlkOk X.N X.env.scope scope own)
    (h : IW X g Fr tg iter S fun xs S1 => noOwn S1 (own.map (·.2)) = true ∧ ∃ Pv : Nat → List Dt → Prop, Pv 0 [] ∧ LcOb X g scope (own.map (·.2)) tg elt ifs xs S1 Pv ∧ ∀ acc, Pv xs.length acc → ∀ p, T (.own p (.lst acc)) S1) (hi : ifs.length ≤ 1 := by decide)
    (hs : ∀ x, foldedSetIterable iter X.env x = pure x := by intro _; rfl) : EF X g Fr (.ListComp elt [⟨tg, iter, ifs, 0⟩] scope pos) S T :=
  fun σ H0 H st => sem_of (pe_lc hc hN pi_sem ok (fun s H C cl fp => ⟨fun pins s1 σ H1 v u Q I r hw => hw s H C cl fp pins s1 u I r⟩) (pts_b hi) (fun s H C cl fp => ⟨fun pins s1 σ H1 Q I hw => hw s H C cl fp pins s1 I⟩) hs)
    (lc_run (P := fun acc S1 => ∀ p, T (.own p (.lst acc)) S1) h st fun D H' acc av S1 H0' e st' hD ra h0 hF hS q => ⟨.own D (.lst acc), S1, H0', e, st'.snoc_own ⟨av, hD, ra⟩ (fun a ha => by
      have : a = D := by simpa [OD.fp] using ha
      subst this; exact ⟨h0, hF, hS⟩) (by simp [OD.fp]), q D⟩)
/-- name = [..] on one line, the name a local: a datum from then on -/
theorem s_setLc (i : Nat) {y : Str} {py spos : Pos} {elt : Expr} {ifs : List Expr} {scope : Scope} (own : List (Str × Nat)) (hc : X.calm = true) (hN : X.N.Nodup) (ok : BlkOk X.N X.env.scope scope own)
    (h : IW X g Fr tg iter S fun xs S1 => noOwn S1 (own.map (·.2)) = true ∧ ∃ Pv : Nat → List Dt → Prop, Pv 0 [] ∧ LcOb X g scope (own.map (·.2)) tg elt ifs xs S1 Pv ∧ ∀ acc, Pv xs.length acc → D.nx (S1.set i (.im (.lst acc)))) (hy : X.N[i]? = some y := by rfl) (hyl : X.env.scope.names.lookup y = some .local := by rfl)
    (hsw : swapsWith (.ListComp elt [⟨tg, iter, ifs, 0⟩] scope pos) (some (.Name y py)) spos.line X.env = pure true := by exact sw_true rfl rfl rfl (by decide +kernel)) (hi : ifs.length ≤ 1 := by decide)
    (hs : ∀ x, foldedSetIterable iter X.env x = pure x := by intro _; rfl) : S1 X g Fr (.Assign [.Name y py] (.ListComp elt [⟨tg, iter, ifs, 0⟩] scope pos) spos) S D :=
  fun σ H0 H st => semS_of (ps_setLc hc hN hy hyl hsw pi_sem ok (fun s H C cl fp => ⟨fun pins s1 σ H1 v u Q I r hw => hw s H C cl fp pins s1 u I r⟩) (pts_b hi) (fun s H C cl fp => ⟨fun pins s1 σ H1 Q I hw => hw s H C cl fp pins s1 I⟩) hs)
    (lc_run (Q := fun v H' => gName i v σ H' (ends X.K g Fr H0 D).nx) (P := fun acc S1 => D.nx (S1.set i (.im (.lst acc)))) h st fun L H' acc av S1 H0' e st' hD ra h0 hF hS q => ⟨_, upd H0' L (.lst av), e.trans (Ex.new h0), (st'.adopt hD h0 hF hS).set_im (.lst upd_same (ra.mono (Ex.new h0))), q⟩)

/-! ### a def by its body -/
/-- the arguments that are own objects stand as they stood -/
def keeps : List Slot → List Slot → Prop
  | [], _ => True
  | .own p o :: r, s :: S => s = .own p o ∧ keeps r S
  | _ :: r, _ :: S => keeps r S
  | _ :: _, [] => False
theorem keeps_at : ∀ {ss S : List Slot} {i : Nat} {p : Addr} {o : OD}, keeps ss S → ss[i]? = some (.own p o) → S[i]? = some (.own p o)
  | [], _, _, _, _, _, h => by simp at h
  | .own p o :: r, s :: S, 0, _, _, k, h => by simp at h; rw [k.1, h.1, h.2]; rfl
  | .own p o :: r, s :: S, i + 1, _, _, k, h => by simpa using keeps_at k.2 (by simpa using h)
  | .no :: r, s :: S, 0, _, _, k, h => by simp at h
  | .no :: r, s :: S, i + 1, _, _, k, h => by simpa using keeps_at (show keeps r S from k) (by simpa using h)
  | .im d :: r, s :: S, 0, _, _, k, h => by simp at h
  | .im d :: r, s :: S, i + 1, _, _, k, h => by simpa using keeps_at (show keeps r S from k) (by simpa using h)
  | _ :: _, [], _, _, _, k, _ => by cases ‹Slot› <;> cases k
theorem back_of {K : PySem.W.Frag} {H0 H H0' H' : Hp} {vs : List V} {ss : List Slot} {σ : L2.St} {S' : List Slot} {v : V} {r : Slot} (st : StR K g Fr H0 H (vs.map some) ss) (e : Ex H0 H0') (st' : StR K g Fr H0' H' (σ ++ [some v]) (S' ++ [r])) (k : keeps ss S') : StR K g Fr H0' H' (vs.map some ++ [some v]) (ss ++ [r]) := by
  have hl : σ.length = S'.length := by simpa using st'.len
  have hlr : SlR K g H0' H' (some (some v)) r := by
    have := st'.sl S'.length r (by simp)
    rw [List.getElem?_append_right (by omega)] at this
    simpa [hl] using this
  have hl2 : vs.length = ss.length := by simpa using st.len
  have sub : ∀ a, a ∈ ss.flatMap Slot.fp → a ∈ S'.flatMap Slot.fp := fun a ha => by
    obtain ⟨s, hs, m⟩ := List.mem_flatMap.mp ha
    obtain ⟨j, hj⟩ := List.mem_iff_getElem?.mp hs
    cases s with
    | no => simp [Slot.fp] at m
    | im d => simp [Slot.fp] at m
    | own p o => exact mem_fp (List.mem_iff_getElem?.mpr ⟨j, keeps_at k hj⟩) m
  have nd' := st'.nd
  rw [List.flatMap_append] at nd'
  obtain ⟨n1, n2, n3⟩ := List.nodup_append.mp nd'
  refine ⟨st'.ex, st'.fr, st'.dis, by simp [hl2], fun i s h => ?_, ?_, fun a ha => ?_⟩
  · by_cases hi : i < ss.length
    · rw [List.getElem?_append_left hi] at h
      rw [List.getElem?_append_left (by simp [hl2]; exact hi)]
      cases s with
      | no => trivial
      | im d => obtain ⟨w, h1, h2⟩ := st.sl i _ h; exact ⟨w, h1, h2.mono e⟩
      | own p o =>
        have hk := keeps_at k h
        have hk2 : (S' ++ [r])[i]? = some (.own p o) := by rw [List.getElem?_append_left (List.getElem?_eq_some_iff.mp hk).1]; exact hk
        exact ⟨(st.own_at h).1, (st'.own_at hk2).2⟩
    · rw [List.getElem?_append_right (by omega)] at h
      have e0 : i - ss.length = 0 := by
        cases q : i - ss.length with
        | zero => rfl
        | succ n => rw [q] at h; simp at h
      rw [e0] at h
      simp at h
      subst h
      rw [List.getElem?_append_right (by simp [hl2]; omega)]
      simp only [List.length_map, hl2, e0]
      exact hlr
  · rw [List.flatMap_append]
    exact List.nodup_append.mpr ⟨st.nd, n2, fun a ha b hb e => n3 a (sub a ha) b hb e⟩
  · rw [List.flatMap_append] at ha
    rcases List.mem_append.mp ha with ha | ha
    · exact st'.free a (by rw [List.flatMap_append]; exact List.mem_append_left _ (sub a ha))
    · exact st'.free a (by rw [List.flatMap_append]; exact List.mem_append_right _ ha)
end
/-- the wish of a body -/
def deOf (ss : List Slot) (R : Slot → Prop) : DE := { nx := fun S => keeps ss S ∧ R (.im .non), rt := fun r S => keeps ss S ∧ R r }
theorem fn_body {P : Program} {w : World} {K : PySem.W.Frag} {mg : Str → Option Value} {base : Heap} {g : Cl} {x qual : Str} {st : Stmt} {f : Addr} {fd : FuncData} {N ps : List Str} {k : Nat} {F : FM} (Fn : Fun K x qual st f fd) (Sc : FnScope N ps (defScope st)) (len : ∀ ss R, F ss R → ss.length = ps.length)
    (body : ∀ (cdv : Value) (A : Around) (outer : List Env) (s : Shared) (H : Hp) (E : XK) (Fr : Hp) (ss : List Slot) (R : Slot → Prop), Room k (A.deeper (envOfC qual (defScope st) s.heap.objs.size f cdv)) → F ss R →
      SW (cxOf CX0 P w K mg base N qual (defScope st) f cdv A outer s H E).nox g Fr (defBody st) (ss ++ List.replicate (N.length - ps.length) .no) (deOf ss R)) : FnOk P w K mg base CX0 (k + 1) f fd ps (spS K g F) := by
  refine Fn.ok Sc (fun vs H Q E h => ?_) (fun cdv A outer s H vs Q E hr h => ?_)
  · obtain ⟨Fr, H0, ss, s0, hF⟩ := h
    have := s0.len
    rw [List.length_map] at this
    rw [this]; exact len _ _ hF
  · obtain ⟨Fr, H0, ss, s0, hF⟩ := h
    have hl := len _ _ hF
    have hvl : vs.length = ss.length := by simpa using s0.len
    refine ⟨_, pss_sem, ?_⟩
    have s1 : StR K g Fr H0 H (L2.start N vs) (ss ++ List.replicate (N.length - ps.length) .no) := by
      unfold L2.start
      rw [hvl, hl]
      have aux : ∀ (n : Nat) (σ : L2.St) (S : List Slot), StR K g Fr H0 H σ S → StR K g Fr H0 H (σ ++ List.replicate n none) (S ++ List.replicate n .no) := by
        intro n σ S st
        have hz : (List.replicate n Slot.no).flatMap Slot.fp = [] := by
          induction n with
          | zero => rfl
          | succ n ih => rw [List.replicate_succ, List.flatMap_cons, ih]; rfl
        refine ⟨st.ex, st.fr, st.dis, by simp [st.len], fun i s h => ?_, by rw [List.flatMap_append, hz, List.append_nil]; exact st.nd, fun a ha => st.free a (by rw [List.flatMap_append, hz, List.append_nil] at ha; exact ha)⟩
        by_cases hi : i < S.length
        · rw [List.getElem?_append_left hi] at h
          rw [List.getElem?_append_left (by rw [st.len]; exact hi)]
          exact st.sl i s h
        · rw [List.getElem?_append_right (by omega), List.getElem?_replicate] at h
          split at h
          · cases h; trivial
          · cases h
      exact aux _ _ _ s0
    refine semSs_mono (body cdv A outer s H E Fr ss _ hr hF _ _ _ s1) ⟨fun σ' H' ⟨S', H0', e, st', q⟩ => ?_, fun v H' ⟨r, S', σ', H0', e, st', q1, q2⟩ => ?_, fun _ _ ⟨_, _, _, _, q⟩ => q.elim, fun _ _ ⟨_, _, _, _, q⟩ => q.elim⟩
    · exact q.2 .non H0' H' e (back_of s0 e (st'.snoc_im .non) q.1)
    · exact q2 v H0' H' e (back_of s0 e st' q1)
/-- a def of the module, from its body -/
theorem fnd_mk {P : Program} {w : World} {K : PySem.W.Frag} {mg : Str → Option Value} {base : Heap} {g : Cl} {x : Str} {f : Addr} {fd : FuncData} {ps : List Str} {k : Nat} {F : FM} (hm : Mono F) (h : mg x = some (.ref f)) (hk : PySem.W.keepIn K (.ref f) = true) (hb : Binds K fd ps []) (ok : FnOk P w K mg base CX0 k f fd ps (spS K g F)) : FnD P w K mg base g k x F :=
  ⟨hm, f, h, hk, (ok.raw hb .nil).imp fun vs H Q E q => by rw [List.append_nil]; exact q⟩
theorem mtd_mk {P : Program} {w : World} {K : PySem.W.Frag} {mg : Str → Option Value} {base : Heap} {g : Cl} {C : Addr} {x : Str} {f : Addr} {fd : FuncData} {ps : List Str} {k : Nat} {F : FM} (hm : Mono F) (h : Meth K C x f) (hb : Binds K fd ps []) (ok : FnOk P w K mg base CX0 k f fd ps (spS K g F)) : MtD P w K mg base g k C x F :=
  ⟨hm, f, h, (ok.raw hb .nil).imp fun vs H Q E q => by rw [List.append_nil]; exact q⟩
end DL

set_option Elab.async false
set_option linter.all false
set_option autoImplicit false
set_option maxRecDepth 100000
set_option maxHeartbeats 4000000
/-! set(t), t a tuple whose items are tuples of ints. -/
namespace SetTup
open PySem PySem.Spec PyProof.Rows L2
/-- a set just made -/
abbrev ns0 (w : World) : Obj := { cls := .type "set", dict := none, data := .set #[] 0 (.fresh 0 0 (!w.params.followText "set-order")) }
section
variable {P : Program} {w : World} {A : Around} {E : Value → Shared → Prop} {s : Shared}
theorem of_tuple {t : Addr} {its : Array Value} (ks : List (Addr × List Int)) {Q : Value → Shared → Prop} (hh : A.handled = none) (ht : s.heap.IsTuple t its) (hi : its.toList = ks.map fun p => Value.ref p.1)
    (hk : ∀ p ∈ ks, IsT P w s.heap p.2 p.1) (few : ks.length < 64) (hu : A.units + 3 < cLine)
    (fin : ∀ (h' : Heap) (tk : Nat) L es ep tb, SetTR P w h' s.heap.objs.size L es ep tb → Got ks ks.length L → (∀ b o, s.heap.get? b = some o → h'.get? b = some o) → Q (.ref s.heap.objs.size) { s with heap := h', toks := tk }) :
    wpAny (model P w) A (call (.type "set") [.ref t]) Q E s := by
  have sz : its.size = ks.length := by
    have := congrArg List.length hi
    simpa using this
  obtain ⟨cc, tl, hmro⟩ := F.called_set.mro
  have made := F.called_set.made
  have hsub := F.called_set.sub
  refine wpAny_call (codeAny_of_tree ?_)
  show wpAny _ _ (callAny (.type "set") _) _ _ _
  refine wpAny_pure ⟨Code.quiet_builtin _ (by decide +kernel), codeAny_builtin F.entry_type_call ?_⟩
  rw [Around.under_plain (weight_type_call_type "set" [.ref t] []) rfl]
  have c1 := F.called_set.notType
  have c2 := F.called_set.canCreate
  have c3 := F.typeCall_set_1 (.ref t)
  repeat (any_goals (first | assumption | wp_step))
  refine codeAny_mono (code_set_led1 (.ref t) (E := E) (Q₁ := fun ob q => ob = .ref s.heap.objs.size ∧ q = { s with heap := s.heap.push (ns0 w) }) ⟨rfl, rfl⟩) fun r q hr => ?_
  cases r with
  | error e => exact hr
  | ok fl =>
    cases fl with
    | ret ob =>
      obtain ⟨rfl, rfl⟩ := hr
      have gS : (s.heap.push (ns0 w)).get? s.heap.objs.size = some (ns0 w) := Heap.get?_push_size _ rfl
      have hT : Shared.TypeIs { s with heap := s.heap.push (ns0 w) } (.ref s.heap.objs.size) "set" := ⟨_, gS, rfl⟩
      have l1 := F.called_set.init.lookup
      have l2 := F.called_set.init.bind (.ref s.heap.objs.size)
      repeat (any_goals (first | assumption | wp_step))
      refine codeAny_mono (codeAny_call_builtin (R := wants (fun r z => r = .none ∧ ∃ h' tk L es ep tb, z = { s with heap := h', toks := tk } ∧ SetTR P w h' s.heap.objs.size L es ep tb ∧ Got ks ks.length L ∧ (∀ b o, s.heap.get? b = some o → h'.get? b = some o)) E)
        F.called_set.init.plain F.entry_set_init (check_set_init_1 hT ?_)) fun r2 z hz => ?_
      · obtain ⟨⟨oc, od, dat, sl⟩, ho, hc, n, hd⟩ := ht
        simp only at hc hd
        subst hc hd
        have ho1 : (s.heap.push (ns0 w)).get? t = some { cls := .type "tuple", dict := od, data := .seq its n, slots := sl } := Heap.get?_push_of_some _ ho
        have b1 := F.sub_tuple_set
        have b2 := F.sub_tuple_frozenset
        have b3 : (Value.type "tuple" == Value.type "dict") = false := by decide
        have t1 : (s.heap.push (ns0 w)).IsTuple t its := ⟨_, ho1, rfl, n, rfl⟩
        unfold Builtin.«set.__init__» noKeywords Builtin.Frozenset.updateFrom
        generalize eI : pyIter = PI
        wp_walk
        subst eI
        refine wpAny_pyIter_tuple t1 (wpAny_bind (wpAny_runValue ?_))
        have lt := Heap.lt_size ho
        have h3 : A.in1.in1.in1.handled = none := by simp [hh]
        have z1 : (s.heap.push (ns0 w)).objs.size = s.heap.objs.size + 1 := Heap.size_push ..
        have ne1 : t ≠ (s.heap.push (ns0 w)).objs.size := by rw [z1]; exact Nat.ne_of_lt (Nat.lt_succ_of_lt lt)
        have ni : s.heap.objs.size ∉ [(s.heap.push (ns0 w)).objs.size, t] := by
          intro m
          rw [z1] at m
          rcases List.mem_cons.mp m with e | m
          · exact Nat.succ_ne_self _ e.symm
          · exact Nat.ne_of_gt lt (List.mem_singleton.mp m)
        have val : ∀ (i : Nat) (v : Value), its[i]? = some v → ∃ p, ks[i]? = some p ∧ v = .ref p.1 := fun i v hv => by
          have q : its.toList[i]? = some v := by rw [Array.getElem?_toList]; exact hv
          rw [hi, List.getElem?_map] at q
          cases e : ks[i]? with
          | none => rw [e] at q; cases q
          | some p => rw [e] at q; exact ⟨p, rfl, (Option.some.inj q).symm⟩
        have no : ∀ b, s.heap.objs.size ≤ b → s.heap.get? b = none := fun b hb => by
          cases q : s.heap.get? b with
          | none => rfl
          | some o => exact absurd (Nat.lt_of_lt_of_le (Heap.lt_size q) hb) (Nat.lt_irrefl _)
        refine set_update_tups ((Walks.tuple h3 _ t ne1 its).toS) s.heap.objs.size ni ks sz few val s.heap hk (no _ (Nat.le_refl _)) (fun b hb => no b (by rw [List.mem_singleton.mp hb, z1]; exact Nat.le_succ _)) hu (its.size - 0) 0 _ (by omega) (Nat.zero_le _)
          ⟨⟨_, Heap.get?_push_size _ rfl, rfl, rfl⟩, (t1.push _)⟩ (fun b o e => Heap.get?_push_of_some _ (Heap.get?_push_of_some _ e)) ?g1 ?g2
        case g1 => exact ⟨[], #[], 0, _, setTR_fresh (Heap.get?_push_of_some _ gS), Got.zero ks⟩
        case g2 =>
          rintro ⟨h', g2, d', tk', os'⟩ L es ep tb hm hS g' kp
          have eg : g2 = s.gens := hm.gens
          have ed : d' = s.drawn := hm.drawn
          have eo : os' = s.os := hm.os
          subst eg ed eo
          show wpAny _ _ _ _ _ _
          refine wpAny_pure ?_
          show wpAny _ _ (ret Value.none) _ _ _
          rw [sz] at g'
          exact wpAny_pure ⟨rfl, h', tk', L, es, ep, tb, rfl, hS, g', kp⟩
      · cases r2 with
        | error e => exact hz
        | ok fl2 =>
          cases fl2 with
          | ret r =>
            obtain ⟨rfl, h', tk, L, es, ep, tb, rfl, hS, g', kp⟩ := hz
            repeat (any_goals (first | assumption | wp_step))
            exact fin _ _ _ _ _ _ hS g' kp
          | _ => exact hz.elim
    | _ => exact hr.elim
end
/-- set(t) by values -/
def rSetT (K : PySem.W.Frag) (P : Program) (w : World) : List V → Hp → VK → Prop := fun xs H Q => ∃ (t : Addr) (ks : List (Addr × List Int)), xs = [V.ref t] ∧ SqT K H t (ks.map fun p => V.ref p.1) ∧ (∀ p ∈ ks, SqT K H p.1 (p.2.map V.int)) ∧ ks.length < 64 ∧
  ∀ a L, H a = none → (∀ p ∈ L, p ∈ ks) → (∀ p ∈ ks, p.2 ∈ L.map (·.2)) → Q (.ref a) (upd H a (SetTO P w a L))
section
variable {X : Cx}
theorem cr_setT (hc : X.calm = true) (hu : X.A.units + 64 < cLine) : CallR X (.type "set") (rSetT X.K X.prog X.w) := by
  intro pins s σ H xs us Q I r h
  obtain ⟨t, ks, rfl, ht, hk, few, q⟩ := h
  obtain ⟨u, rfl, ru⟩ := r.one
  cases (show u = Value.ref t from ru)
  obtain ⟨its, rv, pl, hz⟩ := I.tuple ht
  have hn : H s.heap.objs.size = none := I.hok.fresh (Nat.le_refl _)
  refine of_tuple (P := X.prog) (w := X.w) ks (I.ok.hd hc) pl (by simpa using refs_of_vals rv) (fun p hp => I.isT (hk p hp)) few (by omega) fun h' tk L es ep tb R gt k => ?_
  exact ⟨.ref s.heap.objs.size, upd H s.heap.objs.size (SetTO X.prog X.w s.heap.objs.size L), I.laid (t' := tk) k (Nat.le_refl _) (setTO_new R.t0), rfl, q _ L hn (fun p hp => List.mem_of_mem_take (gt.sub p hp)) fun p hp => gt.all p (by rw [List.take_length]; exact hp)⟩
end
end SetTup

set_option Elab.async false
set_option linter.all false
set_option autoImplicit false
set_option maxRecDepth 100000
set_option maxHeartbeats 2000000
/-! The data layer, seventh part: sorted(set(..)), objects being made, price lists made, read, called. -/
namespace DL
open PySem PySem.Spec PyProof.Rows L2 PK

theorem RepL.packs {K : PySem.W.Frag} {g : Cl} {H : Hp} : ∀ {ps : List Pack} {vs : List V}, RepL K g H vs (ps.map pk) → ∃ ks : List (Addr × List Int), vs = ks.map (fun p => V.ref p.1) ∧ ks.map (·.2) = ps.map (fun p => [p.1, p.2]) ∧ ∀ p ∈ ks, H p.1 = some (.tup (p.2.map V.int))
  | [], _, .nil => ⟨[], rfl, rfl, by simp⟩
  | p :: r, _, .cons a t => by
    obtain ⟨ks, e1, e2, e3⟩ := RepL.packs t
    cases a with
    | tup h l =>
      have hl := l.ints (ns := [p.1, p.2])
      subst hl
      rename_i adr
      refine ⟨(adr, [p.1, p.2]) :: ks, by simp [e1], by simp [e2], fun q hq => ?_⟩
      rcases List.mem_cons.mp hq with e | e
      · subst e; exact h
      · exact e3 q e
theorem RepL.of_packs {K : PySem.W.Frag} {g : Cl} {H : Hp} : ∀ {ks : List (Addr × List Int)} {ps : List Pack}, ks.map (·.2) = ps.map (fun p => [p.1, p.2]) → (∀ p ∈ ks, H p.1 = some (.tup (p.2.map V.int))) → RepL K g H (ks.map fun p => V.ref p.1) (ps.map pk)
  | [], [], _, _ => .nil
  | [], _ :: _, h, _ => by simp at h
  | _ :: _, [], h, _ => by simp at h
  | k :: r, p :: t, h, h2 => by
    simp only [List.map_cons, List.cons.injEq] at h
    refine .cons ?_ (RepL.of_packs h.2 fun q hq => h2 q (List.mem_cons_of_mem _ hq))
    have := h2 k List.mem_cons_self
    rw [h.1] at this
    exact .tup this (.cons (.int _) (.cons (.int _) .nil))
/-- tuples of two ints in the code's order are in the order of packs -/
theorem asc_of_code {B : Int} {L : List (Addr × List Int)} {qs : List Pack} (hq : L.map (·.2) = qs.map fun p => [p.1, p.2]) (nd : (L.map (·.2)).Nodup) (hB : ∀ p ∈ qs, 0 ≤ p.1 ∧ p.1 < B ∧ 0 ≤ p.2 ∧ p.2 < B) (pw : L.Pairwise fun q r => TS.code B q.2 ≤ TS.code B r.2) : Asc qs := by
  have code2 : ∀ x y : Int, TS.code B [x, y] = x * B + y := fun x y => by
    have h : B ^ 1 = B := by rw [Int.pow_succ, Int.pow_zero, Int.one_mul]
    simp [TS.code, h]
  have pw2 : (L.map (·.2)).Pairwise fun a b => TS.code B a ≤ TS.code B b := List.pairwise_map.mpr pw
  rw [hq] at pw2 nd
  have h3 : qs.Pairwise fun a b => a ≠ b := (List.pairwise_map.mp nd).imp fun {a b} h e => h (by rw [e])
  have h4 : qs.Pairwise fun a b => TS.code B [a.1, a.2] ≤ TS.code B [b.1, b.2] := (List.pairwise_map (R := fun a b => TS.code B a ≤ TS.code B b)).mp pw2
  refine ((h3.and h4).imp_of_mem fun {a b} ha hb h => ?_)
  obtain ⟨ne, le⟩ := h
  rw [code2, code2] at le
  obtain ⟨a1, a2, a3, a4⟩ := hB a ha
  obtain ⟨b1, b2, b3, b4⟩ := hB b hb
  unfold LtP
  rcases Int.lt_trichotomy a.1 b.1 with h | h | h
  · exact .inl h
  · refine .inr ⟨h, ?_⟩
    rw [h] at le
    have : a.2 ≠ b.2 := fun e => ne (Prod.ext h e)
    omega
  · exfalso
    have : (b.1 + 1) * B ≤ a.1 * B := Int.mul_le_mul_of_nonneg_right (by omega) (by omega)
    rw [Int.add_mul, Int.one_mul] at this
    omega
section
variable {X : Cx} {g : Cl} {Fr : Hp} {S : List Slot} {R : Dt → List Slot → Prop} {T : Slot → List Slot → Prop} {D : DE} {pos : Pos}
theorem CallR_or {f : Value} {r r' : List V → Hp → VK → Prop} (h : CallR X f r) (h' : CallR X f r') : CallR X f (fun xs H Q => r xs H Q ∨ r' xs H Q) := fun pins s σ H xs us Q I rs q => q.elim (h pins s σ H xs us Q I rs) (h' pins s σ H xs us Q I rs)
def PkB (p : Pack) : Prop := 0 ≤ p.1 ∧ p.1 < 10000000 ∧ 0 ≤ p.2 ∧ p.2 < 10000000
/-- sorted(set(e)), packs in e -/
theorem ew_sset {e : Expr} {p1 p2 p3 : Pos} (hc : X.calm = true) (hu : X.A.units + 64 < cLine) (hm1 : X.mg "sorted" = none) (hm2 : X.mg "set" = none)
    (h : EW X g Fr e S fun d S1 => ∃ ps, itemsOf d = some (ps.map pk) ∧ (∀ p ∈ ps, PkB p) ∧ ps.length < 64 ∧ R (.lst ((srt ps).map pk)) S1)
    (hg1 : Gl X "sorted" := by rfl) (hg2 : Gl X "set" := by rfl) (he : starEach (e :: []) X.env = (false, eval e X.env) :: starEach [] X.env := by rfl) (hpl : (backTo p3 (starEach [] X.env)).any (·.1) = false := by rfl)
    (he2 : starEach (.Call (.Name "set" p2) [e] [] p3 :: []) X.env = (false, eval (.Call (.Name "set" p2) [e] [] p3) X.env) :: starEach [] X.env := by rfl) (hpl2 : (backTo pos (starEach [] X.env)).any (·.1) = false := by rfl) :
    EW X g Fr (.Call (.Name "sorted" p1) [.Call (.Name "set" p2) [e] [] p3] [] pos) S R :=
  ew_of (pe_callB (cr_sortedT hc) hg1 hm1 (by decide +kernel) (pa_cons (pe_callTy (CallR_or (cr_setOfT hc hu) (SetTup.cr_setT hc hu)) hg2 hm2 (by decide +kernel) (pa_cons pe_sem pa_nil he) (by decide) (by decide) he hpl) pa_nil he2) (by decide) (by decide) he2 hpl2) fun σ H0 H st =>
    sem_mono (h σ H0 H st) fun v H1 ⟨d, S1, H01, e1, st1, r, ps, hx, hb, hl, q⟩ => by
      obtain ⟨a, vs, rfl, ha, l⟩ := items_rep r hx
      obtain ⟨ks, ek, ek2, hk⟩ := l.packs
      have hkl : ks.length = ps.length := by have := congrArg List.length ek2; simpa using this
      have hk1 : ∀ p ∈ ks, SqT X.K H1 p.1 (p.2.map V.int) := fun p hp => st_of (st1.ex _ _ (hk p hp))
      have key : ∀ b L, H1 b = none → (∀ p ∈ L, p ∈ ks) → (∀ p ∈ ks, p.2 ∈ L.map (·.2)) → rSortedT X.K X.prog X.w [V.ref b] (upd H1 b (SetTO X.prog X.w b L)) (PostE X.K g Fr σ H0 R) := fun b L hbn hL hall => by
        have ex1 : Ex H1 (upd H1 b (SetTO X.prog X.w b L)) := Ex.new hbn
        have hpk : ∀ p ∈ L, ∃ z : Pack, z ∈ ps ∧ p.2 = [z.1, z.2] := fun p hp => by
          have m : p.2 ∈ ks.map (·.2) := List.mem_map_of_mem (hL p hp)
          rw [ek2] at m
          obtain ⟨z, hz, e⟩ := List.mem_map.mp m
          exact ⟨z, hz, e.symm⟩
        refine ⟨b, L, 2, 10000000, rfl, upd_same, fun p hp => ex_t ex1 (hk1 p (hL p hp)), by decide, fun p hp => ?_, fun L' p pm nd few pw hp => ?_⟩
        · obtain ⟨z, hz, e⟩ := hpk p hp
          obtain ⟨b1, b2, b3, b4⟩ := hb z hz
          rw [e]
          refine ⟨rfl, fun m hm => ?_⟩
          rcases List.mem_cons.mp hm with e | hm
          · subst e; exact ⟨b1, b2⟩
          · rw [List.mem_singleton.mp hm]; exact ⟨b3, b4⟩
        · -- the sorted list, told of packs
          have hq : ∃ qs : List Pack, L'.map (·.2) = qs.map (fun p => [p.1, p.2]) ∧ ∀ z ∈ qs, z ∈ ps := by
            have aux : ∀ M : List (Addr × List Int), (∀ p ∈ M, p ∈ L) → ∃ qs : List Pack, M.map (·.2) = qs.map (fun p => [p.1, p.2]) ∧ ∀ z ∈ qs, z ∈ ps := by
              intro M
              induction M with
              | nil => intro _; exact ⟨[], rfl, by simp⟩
              | cons m r ih =>
                intro hM
                obtain ⟨qs, e1, e2⟩ := ih fun p hp => hM p (List.mem_cons_of_mem _ hp)
                obtain ⟨z, hz, e⟩ := hpk m (hM m List.mem_cons_self)
                refine ⟨z :: qs, by simp [e, e1], fun y hy => ?_⟩
                rcases List.mem_cons.mp hy with h | h
                · subst h; exact hz
                · exact e2 y h
            exact aux L' fun p hp => pm.mem_iff.mp hp
          obtain ⟨qs, hq1, hq2⟩ := hq
          have asc : Asc qs := asc_of_code hq1 nd (fun p hp => hb p (hq2 p hp)) pw
          have eqs : qs = srt ps := asc_unique asc (asc_srt ps) fun x => by
            rw [mem_srt]
            refine ⟨hq2 x, fun hx => ?_⟩
            have m1 : [x.1, x.2] ∈ ks.map (·.2) := by rw [ek2]; exact List.mem_map.mpr ⟨x, hx, rfl⟩
            obtain ⟨k0, hk0, e0⟩ := List.mem_map.mp m1
            have m2 := hall k0 hk0
            rw [e0] at m2
            have m3 : [x.1, x.2] ∈ L'.map (·.2) := (pm.map (·.2)).mem_iff.mpr m2
            rw [hq1] at m3
            obtain ⟨y, hy, ey⟩ := List.mem_map.mp m3
            have : y = x := by
              simp only [List.cons.injEq, and_true] at ey
              exact Prod.ext ey.1 ey.2
            rw [← this]; exact hy
          rw [eqs] at hq1
          have st2 := st1.grow ex1
          exact (doneN st2 hp (fun H3 ex e => .lst e (RepL.of_packs hq1 fun z hz => ex _ _ (hk z (hL z (pm.mem_iff.mp hz))))) q).back e1
      rcases ha with z | z
      · refine .inl ⟨a, ks, rfl, by rw [← ek]; exact sq_of (st1.ex _ _ z), hk1, by omega, key⟩
      · refine .inr ⟨a, ks, rfl, by rw [← ek]; exact st_of (st1.ex _ _ z), hk1, by omega, key⟩
/-! ### an object that is being made -/
def putD (f : Str) (d : Dt) : List (Str × Dt) → List (Str × Dt)
  | [] => [(f, d)]
  | (n, e) :: r => if n = f then (n, d) :: r else (n, e) :: putD f d r
theorem krep_put {K : PySem.W.Frag} {H : Hp} {f : Str} {v : V} {d : Dt} (r : Rep K g H v d) : ∀ {fv : List (Str × V)} {fs : List (Str × Dt)}, KRep K g H fv fs → KRep K g H (putF f v fv) (putD f d fs)
  | [], [], _ => ⟨rfl, .cons r .nil⟩
  | [], _ :: _, h => by have := h.1; simp at this
  | _ :: _, [], h => by have := h.1; simp at this
  | (n, x) :: t, (m, e) :: u, h => by
    obtain ⟨h1, h2⟩ := h
    simp only [List.map_cons, List.cons.injEq] at h1
    obtain ⟨rfl, h1⟩ := h1
    cases h2 with
    | cons a b =>
      unfold putF putD
      by_cases e : n = f
      · rw [if_pos e, if_pos e]
        exact ⟨by simp [h1], .cons r b⟩
      · rw [if_neg e, if_neg e]
        obtain ⟨q1, q2⟩ := krep_put r (show KRep K g H t u from ⟨h1, b⟩)
        exact ⟨by simp [q1], .cons a q2⟩
theorem krep_look {K : PySem.W.Frag} {H : Hp} {f : Str} {d : Dt} : ∀ {fv : List (Str × V)} {fs : List (Str × Dt)}, KRep K g H fv fs → fs.lookup f = some d → ∃ v, fv.lookup f = some v ∧ Rep K g H v d
  | [], [], _, h => by simp at h
  | [], _ :: _, h, _ => by have := h.1; simp at this
  | _ :: _, [], h, _ => by have := h.1; simp at this
  | (n, x) :: t, (m, e) :: u, h, hl => by
    obtain ⟨h1, h2⟩ := h
    simp only [List.map_cons, List.cons.injEq] at h1
    obtain ⟨rfl, h1⟩ := h1
    cases h2 with
    | cons a b =>
      simp only [List.lookup] at hl ⊢
      cases e2 : (f == n) with
      | true => rw [e2] at hl; cases hl; exact ⟨x, rfl, a⟩
      | false => rw [e2] at hl; exact krep_look ⟨h1, b⟩ hl
/-- an own object put where it stood -/
theorem own_obj {K : PySem.W.Frag} {σ : L2.St} {H0 H : Hp} {i : Nat} {p C dx : Addr} {fs es : List (Str × Dt)} {fv : List (Str × V)} (st : StR K g Fr H0 H σ S) (hS : S[i]? = some (.own p (.obj C dx fs))) (r : KRep K g H0 fv es) : StR K g Fr H0 (upd H p (.ins C dx fv)) σ (S.set i (.own p (.obj C dx es))) := by
  have hi : i < S.length := (List.getElem?_eq_some_iff.mp hS).1
  have hp := st.free p (mem_fp (List.mem_iff_getElem?.mpr ⟨i, hS⟩) (by simp [Slot.fp, OD.fp]))
  have same : ∀ (S : List Slot) (i : Nat), S[i]? = some (.own p (.obj C dx fs)) → (S.set i (.own p (.obj C dx es))).flatMap Slot.fp = S.flatMap Slot.fp := by
    intro S
    induction S with
    | nil => intro i h; simp at h
    | cons s t ih =>
      intro i h
      cases i with
      | zero => simp at h; subst h; simp [Slot.fp, OD.fp]
      | succ i => simp only [List.set_cons_succ, List.flatMap_cons]; rw [ih i (by simpa using h)]
  obtain ⟨hσ, hdx, fv0, hp0, r0⟩ := st.own_at hS
  have hne : dx ≠ p := fun e => by subst e; rw [hdx] at hp0; cases hp0
  refine ⟨st.ex.mut hp.1, st.fr.mut hp.2, st.dis, by simp [st.len], fun j s h => ?_, by rw [same S i hS]; exact st.nd, fun a ha => st.free a (by rw [same S i hS] at ha; exact ha)⟩
  by_cases e : i = j
  · subst e
    rw [List.getElem?_set_self hi] at h
    cases h
    exact ⟨hσ, by rw [upd_ne hne]; exact hdx, fv, upd_same, r⟩
  · rw [List.getElem?_set_ne e] at h
    refine (st.sl j s h).keep (Ex.refl _) fun a ha u hu => ?_
    rw [upd_ne]
    · exact hu
    · intro e2
      subst e2
      have := one_slot st.nd (List.mem_iff_getElem?.mpr ⟨i, hS⟩) (List.mem_iff_getElem?.mpr ⟨j, h⟩) (a := a) (by simp [Slot.fp, OD.fp]) ha
      subst this
      have nd := st.nd
      have ndx : ∀ (S : List Slot) (i j : Nat) (s : Slot), i ≠ j → S[i]? = some s → S[j]? = some s → (S.flatMap Slot.fp).Nodup → a ∈ s.fp → False := by
        intro S
        induction S with
        | nil => intro i j s _ h; simp at h
        | cons x l ih =>
          intro i j s ne h1 h2 nd m1
          rw [List.flatMap_cons] at nd
          obtain ⟨n1, n2, n3⟩ := List.nodup_append.mp nd
          cases i with
          | zero =>
            cases j with
            | zero => exact ne rfl
            | succ j => simp at h1 h2; subst h1; exact n3 a m1 a (mem_fp (List.mem_iff_getElem?.mpr ⟨j, h2⟩) m1) rfl
          | succ i =>
            cases j with
            | zero => simp at h1 h2; subst h2; exact n3 a m1 a (mem_fp (List.mem_iff_getElem?.mpr ⟨i, h1⟩) m1) rfl
            | succ j => exact ih i j s (by omega) (by simpa using h1) (by simpa using h2) n2 m1
      exact ndx S i j _ e hS h nd ha
/-- self.f = e, self an object being made -/
theorem s_fldO (i : Nat) {x f : Str} {e : Expr} {xp pos' : Pos} {p C dx : Addr} {fs : List (Str × Dt)} (hS : S[i]? = some (.own p (.obj C dx fs))) (hC : Cls X.K C) (hn : NoAttr X.K C f) (h : EW X g Fr e S fun d S1 => ∃ fs1, S1[i]? = some (.own p (.obj C dx fs1)) ∧ fs1.length < 100 ∧ D.nx (S1.set i (.own p (.obj C dx (putD f d fs1)))))
    (hN : X.N[i]? = some x := by rfl) (hv : Vis X.env.scope x := by first | exact Or.inl rfl | exact Or.inr (Or.inl rfl) | exact Or.inr (Or.inr rfl)) (hd : (x == ("__debug__" : Str)) = false := by decide) (hcd : (x == ("__classdict__" : Str)) = false := by decide)
    (hs : swapsWith e (some (.Attribute (.Name x xp) f pos')) pos.line X.env = pure false := by rfl) : S1 X g Fr (.Assign [.Attribute (.Name x xp) f pos'] e pos) S D :=
  fun σ H0 H st => semS_of (ps_fld (pe_var hN hv hd hcd) pe_sem hs) (sem_mono (h σ H0 H st) fun v H1 ⟨d, S1, H01, e1, st1, r, fs1, hS1, hl, q⟩ => by
    obtain ⟨hσ, hdx, fv, hp, kr⟩ := st1.own_at hS1
    have hlen : fv.length = fs1.length := by have := congrArg List.length kr.1; simpa using this
    exact ⟨.ref p, hσ, p, C, dx, fv, rfl, hp, hC, hn, by omega, _, H01, e1, own_obj st1 hS1 (krep_put r kr), q⟩)
theorem ew_fldO (i : Nat) {x f : Str} {xp : Pos} {p C dx : Addr} {fs : List (Str × Dt)} {d : Dt} (hS : S[i]? = some (.own p (.obj C dx fs))) (hC : Cls X.K C) (hn : NoAttr X.K C f) (hl : fs.lookup f = some d) (h : R d S)
    (hN : X.N[i]? = some x := by rfl) (hv : Vis X.env.scope x := by first | exact Or.inl rfl | exact Or.inr (Or.inl rfl) | exact Or.inr (Or.inr rfl)) (hd : (x == ("__debug__" : Str)) = false := by decide) (hcd : (x == ("__classdict__" : Str)) = false := by decide)
    (hb : attributeBase (.Name x xp) f X.env (eval (.Name x xp) X.env) = eval (.Name x xp) X.env := by rfl) : EW X g Fr (.Attribute (.Name x xp) f pos) S R :=
  ew_of (pe_fld (pe_var hN hv hd hcd) hb) fun σ H0 H st => by
    obtain ⟨hσ, hdx, fv, hp, kr⟩ := st.own_at hS
    obtain ⟨v, hv, r⟩ := krep_look kr hl
    exact ⟨.ref p, hσ, p, C, dx, fv, v, rfl, hp, hC, hn, hv, done st r h⟩
/-! ### a price list: made -/
/-- what __init__ of PriceList does with its packs -/
def spInit (K : PySem.W.Frag) (g : Cl) : Sp := fun vs H Q _ => ∃ Fr H0 p dx packs, StR K g Fr H0 H (vs.map some) [.own p (.obj g.shop dx []), .im (.tup (packs.map pk))] ∧ packs ≠ [] ∧ (∀ q ∈ packs, OkPack q) ∧ packs.length ≤ 30 ∧
  ∀ H0' H', Ex H0 H0' → StR K g Fr H0' H' (vs.map some) [.own p (.obj g.shop dx [("needed", .tup ((neededOf packs).map pk)), ("best", pk (bestOf (neededOf packs))), ("known", .lst ((knownOf (neededOf packs)).map Dt.int))]), .im (.tup (packs.map pk))] → Q .non H'
/-- the class can be made by __init__ -/
structure MkS (P : Program) (w : World) (K : PySem.W.Frag) (mg : Str → Option Value) (base : Heap) (g : Cl) (k : Nat) : Prop where
  at_ : mg "PriceList" = some (.ref g.shop)
  ex : ∃ f : Addr, Mk K g.shop f ∧ FnR P w K mg base CX0 k f (fun vs H Q E => ∃ ws rest, vs = ws ++ rest ∧ ws.length = 1 ∧ rest.length ≤ sizeLine ∧ ∀ p, H p = none → spInit K g (ws ++ [V.ref p]) (upd H p (.tup rest)) Q E)
/-- the finished object joins what never changes -/
theorem shop_done {K : PySem.W.Frag} {σ : L2.St} {H0 H : Hp} {p dx : Addr} {ps : List Pack} (ok : OkShop ps) (hdx : H dx = some (.own p)) (hp : ∃ fv, H p = some (.ins g.shop dx fv) ∧ KRep K g H0 fv [("needed", .tup (ps.map pk)), ("best", pk (bestOf ps)), ("known", .lst ((knownOf ps).map Dt.int))])
    (st : StR K g Fr H0 H σ S) (h1 : H0 p = none) (h2 : Fr p = none) (h3 : p ∉ S.flatMap Slot.fp) : ∃ H0', Ex H0 H0' ∧ StR K g Fr H0' H σ S ∧ Rep K g H0' (.ref p) (.shop ps) := by
  obtain ⟨fv, hp, kr⟩ := hp
  obtain ⟨k1, k2⟩ := kr
  match fv, k1, k2 with
  | [(a, va), (b, vb), (c, vc)], k1, .cons r1 (.cons r2 (.cons r3 .nil)) =>
    simp only [List.map_cons, List.map_nil, List.cons.injEq, and_true] at k1
    obtain ⟨rfl, rfl, rfl⟩ := k1
    have ex : Ex H0 (upd H0 p (.ins g.shop dx [("needed", va), ("best", vb), ("known", vc)])) := Ex.new h1
    cases r1 with
    | tup e1 l1 =>
      cases r2 with
      | tup e2 l2 =>
        cases r3 with
        | lst e3 l3 =>
          have i2 := l2.ints (ns := [(bestOf ps).1, (bestOf ps).2])
          have i3 := l3.ints
          subst i2 i3
          exact ⟨_, ex, st.adopt hp h1 h2 h3, .shop ok upd_same (ex _ _ e1) (l1.mono ex) (ex _ _ e2) (ex _ _ e3)⟩
theorem make_go {σ : L2.St} {H0 H01 H1 : Hp} {S1 : List Slot} {vs : List V} {packs : List Pack} (st1 : StR X.K g Fr H01 H1 σ S1) (rl : RepL X.K g H01 vs (packs.map pk)) (hne : packs ≠ []) (hok : ∀ q ∈ packs, OkPack q) (hl : packs.length ≤ 30) (q : R (.shop (neededOf packs)) S1) (e1 : Ex H0 H01) :
    ∀ x dx, H1 x = none → H1 dx = none → dx ≠ x → ∃ ws rest, (V.ref x :: vs) = ws ++ rest ∧ ws.length = 1 ∧ rest.length ≤ sizeLine ∧ ∀ p, upd (upd H1 dx (.own x)) x (.ins g.shop dx []) p = none → spInit X.K g (ws ++ [V.ref p]) (upd (upd (upd H1 dx (.own x)) x (.ins g.shop dx [])) p (.tup rest)) (fun v H2 => v = .non ∧ PostE X.K g Fr σ H0 R (.ref x) H2) E0 := by
  intro x dx hx hdx hne2
  refine ⟨[V.ref x], vs, rfl, rfl, by rw [rl.length, List.length_map]; exact Nat.le_trans hl (by decide), fun t ht => ?_⟩
  -- the heap at the body's start
  have hxt : t ≠ x := fun z => by subst z; rw [upd_same] at ht; cases ht
  have hdt : t ≠ dx := fun z => by subst z; rw [upd_ne hne2, upd_same] at ht; cases ht
  have ht1 : H1 t = none := by rw [upd_ne hxt, upd_ne hdt] at ht; exact ht
  have hx0 : H01 x = none := st1.ex.free hx
  have hdx0 : H01 dx = none := st1.ex.free hdx
  have ht0 : H01 t = none := st1.ex.free ht1
  let Hs := upd (upd (upd H1 dx (.own x)) x (.ins g.shop dx [])) t (.tup vs)
  have exs : Ex H1 Hs := fun a u z => by
    have hax : a ≠ x := ne_of_none z hx
    have had : a ≠ dx := ne_of_none z hdx
    have hat : a ≠ t := ne_of_none z ht1
    show upd (upd (upd H1 dx (.own x)) x (.ins g.shop dx [])) t (.tup vs) a = _
    rw [upd_ne hat, upd_ne hax, upd_ne had]; exact z
  let H02 := upd H01 t (.tup vs)
  have ex02 : Ex H01 H02 := Ex.new ht0
  have stx : ∀ a ∈ [x, dx], H02 a = none := fun a ha => by
    have : a ≠ t := by
      rcases List.mem_cons.mp ha with z | z
      · rw [z]; exact hxt.symm
      · rw [List.mem_singleton.mp z]; exact hdt.symm
    show upd H01 t (.tup vs) a = none
    rw [upd_ne this]
    rcases List.mem_cons.mp ha with z | z
    · rw [z]; exact hx0
    · rw [List.mem_singleton.mp z]; exact hdx0
  let Frc : Hp := fun a => if (H02 a).isSome = true ∨ a = x ∨ a = dx then none else Hs a
  have frc_some : ∀ a o, Frc a = some o → H02 a = none ∧ a ≠ x ∧ a ≠ dx ∧ Hs a = some o := fun a o z => by
    by_cases hq : (H02 a).isSome = true ∨ a = x ∨ a = dx
    · have : Frc a = none := if_pos hq
      rw [this] at z; cases z
    · have e : Frc a = Hs a := if_neg hq
      rw [e] at z
      refine ⟨?_, fun w => hq (.inr (.inl w)), fun w => hq (.inr (.inr w)), z⟩
      cases w : H02 a with
      | none => rfl
      | some u => exact absurd (.inl (by rw [w]; rfl)) hq
  have st0 : StR X.K g Frc H02 Hs ([V.ref x, V.ref t].map some) [.own x (.obj g.shop dx []), .im (.tup (packs.map pk))] := by
    refine ⟨fun a u z => ?_, fun a u z => (frc_some a u z).2.2.2, fun a u z => (frc_some a u z).1, rfl, fun i s z => ?_, ?_, fun a ha => ?_⟩
    · by_cases w : a = t
      · subst w
        have z : upd H01 a (.tup vs) a = some u := z
        rw [upd_same] at z; cases z
        exact upd_same
      · have z : upd H01 t (.tup vs) a = some u := z
        rw [upd_ne w] at z
        exact exs _ _ (st1.ex _ _ z)
    · match i, z with
      | 0, z =>
        cases z
        refine ⟨rfl, ?_, [], ?_, rfl, .nil⟩
        · show upd (upd (upd H1 dx (.own x)) x (.ins g.shop dx [])) t (.tup vs) dx = _
          rw [upd_ne hdt.symm, upd_ne hne2, upd_same]
        · show upd (upd (upd H1 dx (.own x)) x (.ins g.shop dx [])) t (.tup vs) x = _
          rw [upd_ne hxt.symm, upd_same]
      | 1, z => cases z; exact ⟨V.ref t, rfl, .tup upd_same (rl.mono ex02)⟩
      | n + 2, z => simp at z
    · simp [Slot.fp, OD.fp, Ne.symm hne2]
    · have ha : a ∈ [x, dx] := by simpa [Slot.fp, OD.fp] using ha
      refine ⟨stx a ha, if_pos ?_⟩
      rcases List.mem_cons.mp ha with z | z
      · exact .inr (.inl z)
      · exact .inr (.inr (List.mem_singleton.mp z))
  refine ⟨Frc, H02, x, dx, packs, st0, hne, hok, hl, fun H03 H3 e3 st3 => ⟨rfl, ?_⟩⟩
  obtain ⟨_, hdx3, hp3⟩ := st3.own_at (i := 0) rfl
  have e13 : Ex H01 H03 := ex02.trans e3
  have keep : ∀ a o, H1 a = some o → H3 a = some o := fun a o z => by
    have hax : a ≠ x := ne_of_none z hx
    have had : a ≠ dx := ne_of_none z hdx
    cases w : H02 a with
    | some u =>
      have h1 : Hs a = some u := st0.ex _ _ w
      rw [exs _ _ z] at h1; cases h1
      exact st3.ex _ _ (e3 _ _ w)
    | none =>
      refine st3.fr a o ?_
      show (if (H02 a).isSome = true ∨ a = x ∨ a = dx then none else Hs a) = some o
      rw [if_neg]
      · exact exs _ _ z
      · rintro (h | h | h)
        · rw [w] at h; cases h
        · exact hax h
        · exact had h
  have new0 : ∀ a o, H1 a = some o → H01 a = none → H03 a = none := fun a o z w => by
    have hax : a ≠ x := ne_of_none z hx
    have had : a ≠ dx := ne_of_none z hdx
    have hat : a ≠ t := ne_of_none z ht1
    refine st3.dis a o ?_
    have w2 : H02 a = none := by show upd H01 t (.tup vs) a = none; rw [upd_ne hat]; exact w
    show (if (H02 a).isSome = true ∨ a = x ∨ a = dx then none else Hs a) = some o
    rw [if_neg]
    · exact exs _ _ z
    · rintro (h | h | h)
      · rw [w2] at h; cases h
      · exact hax h
      · exact had h
  have stc : StR X.K g Fr H03 H3 σ S1 := by
    refine ⟨st3.ex, fun a o z => keep a o (st1.fr a o z), fun a o z => new0 a o (st1.fr a o z) (st1.dis a o z), st1.len, fun i s z => (st1.sl i s z).keep e13 fun a _ u hu => keep a u hu, st1.nd, fun a ha => ⟨?_, (st1.free a ha).2⟩⟩
    obtain ⟨s, hs, m⟩ := List.mem_flatMap.mp ha
    obtain ⟨i, hi⟩ := List.mem_iff_getElem?.mp hs
    cases s with
    | no => simp [Slot.fp] at m
    | im d => simp [Slot.fp] at m
    | own p o =>
      obtain ⟨u, hu⟩ := (st1.own_at hi).2.some_of m
      exact new0 a u hu (st1.free a ha).1
  have fx := st3.free x (by simp [Slot.fp, OD.fp])
  obtain ⟨H04, e4, st4, r4⟩ := shop_done ⟨packs, hne, hok, rfl⟩ hdx3 hp3 stc fx.1 (st1.fr.free hx) (notin_fp st1 hx)
  exact ⟨.shop (neededOf packs), S1, H04, (e1.trans e13).trans e4, st4, r4, q⟩
theorem ew_make {e : Expr} {es : List Expr} {q : Pos} {k : Nat} (M : MkS X.prog X.w X.K X.mg X.base g k) (hr : Room (k + 1) X.A)
    (h : AW X g Fr (e :: es) S fun ss S1 => ∃ packs, imAll ss = some (packs.map pk) ∧ packs ≠ [] ∧ (∀ q ∈ packs, OkPack q) ∧ packs.length ≤ 30 ∧ R (.shop (neededOf packs)) S1) (hg : Gl X "PriceList" := by rfl)
    (he : starEach (e :: es) X.env = (false, eval e X.env) :: starEach es X.env := by rfl) (hpl : (backTo pos (starEach es X.env)).any (·.1) = false := by rfl) : EW X g Fr (.Call (.Name "PriceList" q) (e :: es) [] pos) S R := by
  obtain ⟨f, Mf, G⟩ := M.ex
  refine ew_of (StX.pe_makeR Mf G hr hg M.at_ pass0 pa_sem (by decide) he hpl) fun σ H0 H st => semA_mono (h σ H0 H st) fun vs H1 ⟨ss, S1, H01, e1, st1, ra, packs, hi, hne, hok, hl, q⟩ => ?_
  exact make_go st1 (ra.imAll hi) hne hok hl q e1
/-! ### a price list: its packs, its call -/
structure PropD (P : Program) (w : World) (K : PySem.W.Frag) (mg : Str → Option Value) (base : Heap) (g : Cl) (k : Nat) : Prop where
  ex : ∃ (p f : Addr) (fd : FuncData), PropOf K g.shop "packs" p f ∧ Binds K fd ["self"] [] ∧ FnOk P w K mg base CX0 k f fd ["self"] (spS K g fun ss R => ∃ ps, ss = [.im (.shop ps)] ∧ R (.im (.tup (ps.map pk))))
theorem ew_packs {e : Expr} {k : Nat} (C : ShC X.K g) (Pd : PropD X.prog X.w X.K X.mg X.base g k) (hr : Room (k + 1) X.A) (h : EW X g Fr e S fun d S1 => ∃ ps, d = .shop ps ∧ R (.tup (ps.map pk)) S1) (hb : attributeBase e "packs" X.env (eval e X.env) = eval e X.env := by rfl) : EW X g Fr (.Attribute e "packs" pos) S R := by
  obtain ⟨p, f, fd, hp, hbd, G⟩ := Pd.ex
  refine ew_of (pe_prop pe_sem C.isi.cl hp G hr hbd .nil pass0 hb) fun σ H0 H st => sem_mono (h σ H0 H st) fun v H1 ⟨d, S1, H01, e1, st1, r, ps, ed, q⟩ => ?_
  subst ed
  have r0 := r
  cases r with
  | shop ok h1 h2 l h3 h4 =>
    refine ⟨_, _, _, rfl, st1.ex _ _ h1, ?_⟩
    obtain ⟨Fr', H0', ss', a, b⟩ := call_post (F := fun ss R => ∃ ps, ss = [Slot.im (.shop ps)] ∧ R (.im (.tup (ps.map pk)))) (T := fun r S2 => ∃ d, r = .im d ∧ R d S2) (fun ss R R' k ⟨ps, e, q⟩ => ⟨ps, e, k _ q⟩) st1 (.im r0 .nil) (by simp [Slot.fp]) ⟨ps, rfl, _, rfl, q⟩
    refine ⟨Fr', H0', ss', a, ?_⟩
    obtain ⟨ps', e, q'⟩ := b
    refine ⟨ps', e, fun v H0'' H'' x1 x2 => ?_⟩
    obtain ⟨r, S3, H05, e5, st5, d, er, q5⟩ := q' v H0'' H'' x1 x2
    subst er
    exact ⟨d, S3, H05, e1.trans e5, st5.unsnoc, st5.last, q5⟩
/-- __call__ -/
structure CalD (P : Program) (w : World) (K : PySem.W.Frag) (mg : Str → Option Value) (base : Heap) (g : Cl) (k : Nat) (F : FM) : Prop where
  mono : Mono F
  ex : ∃ f : Addr, StX.CallO K g.shop f ∧ FnR P w K mg base CX0 k f (spS K g F)
theorem ef_callO {fe e : Expr} {es : List Expr} {k : Nat} {F : FM} (G : CalD X.prog X.w X.K X.mg X.base g k F) (hr : Room k X.A) (h : EW X g Fr fe S fun d S1 => ∃ ps, d = .shop ps ∧ AW X g Fr (e :: es) S1 fun ss S2 => (ss.flatMap Slot.fp).Nodup ∧ F (.im d :: ss) fun r => T r S2)
    (ht : eval (.Call fe (e :: es) [] pos) X.env = (do callWith pos (← eval fe X.env) [] (backTo pos (starEach (e :: es) X.env)) (backToKw pos (keywordEach [] X.env))) := by rfl)
    (he : starEach (e :: es) X.env = (false, eval e X.env) :: starEach es X.env := by rfl) (hpl : (backTo pos (starEach es X.env)).any (·.1) = false := by rfl) : EF X g Fr (.Call fe (e :: es) [] pos) S T := by
  obtain ⟨f, co, Gf⟩ := G.ex
  refine fun σ H0 H st => sem_of (StX.pe_callO pe_sem co Gf hr pass0 pa_sem ht he hpl) (sem_mono (h σ H0 H st) fun v H1 ⟨d, S1, H01, e1, st1, r, ps, ed, q⟩ => ?_)
  subst ed
  have r0 := r
  cases r with
  | shop ok h1 h2 l h3 h4 =>
    refine ⟨_, rfl, semA_mono (q σ H01 H1 st1) fun vs H2 ⟨ss, S2, H02, e2, st2, ra, nd, q2⟩ => ⟨.inr ⟨_, _, st2.ex _ _ (e2 _ _ h1)⟩, ?_⟩⟩
    obtain ⟨Fr', H0', ss', a, b⟩ := call_post (T := T) G.mono st2 (.im (r0.mono e2) ra) (by simpa [Slot.fp] using nd) q2
    exact ⟨Fr', H0', ss', a, G.mono _ _ _ (fun r w v H0'' H'' x1 x2 => (w v H0'' H'' x1 x2).back (e1.trans e2)) b⟩
end
end DL

set_option Elab.async false
set_option linter.all false
set_option autoImplicit false
set_option maxRecDepth 100000
set_option maxHeartbeats 2000000
/-! The data layer, eighth part: the built-ins' names, isinstance of plain data. -/
namespace DL
open PySem PySem.Spec PyProof.Rows L2 PK
theorem bt_isinstance : bootBuiltins "isinstance" = some (.builtin "isinstance") := by decide +kernel
theorem bt_len : bootBuiltins "len" = some (.builtin "len") := by decide +kernel
theorem bt_min : bootBuiltins "min" = some (.builtin "min") := by decide +kernel
theorem bt_max : bootBuiltins "max" = some (.builtin "max") := by decide +kernel
theorem bt_all : bootBuiltins "all" = some (.builtin "all") := by decide +kernel
theorem bt_sum : bootBuiltins "sum" = some (.builtin "sum") := by decide +kernel
theorem bt_abs : bootBuiltins "abs" = some (.builtin "abs") := by decide +kernel
theorem bt_int : bootBuiltins "int" = some (.type "int") := by decide +kernel
theorem bt_bool : bootBuiltins "bool" = some (.type "bool") := by decide +kernel
theorem bt_tuple : bootBuiltins "tuple" = some (.type "tuple") := by decide +kernel
theorem bt_list : bootBuiltins "list" = some (.type "list") := by decide +kernel
/-- the six plain kinds -/
def kindD : Dt → Option String
  | .non => some "NoneType"
  | .bl _ => some "bool"
  | .int _ => some "int"
  | .str _ => some "str"
  | .lst _ => some "list"
  | .tup _ => some "tuple"
  | _ => none
theorem kind_of {K : PySem.W.Frag} {g : Cl} {H : Hp} {v : V} {d : Dt} {n : String} (r : Rep K g H v d) (h : kindD d = some n) : TyX K H v (.type n) := by
  cases r with
  | non => cases h; exact .base .non
  | bl b => cases h; exact .base (.bl b)
  | int i => cases h; exact .base (.int i)
  | str x => cases h; exact .base (.str x)
  | lst e _ => cases h; exact .base (.lst e)
  | tup e _ => cases h; exact .base (.tup e)
  | _ => cases h
section
variable {X : Cx} {g : Cl} {Fr : Hp} {S : List Slot} {R : Dt → List Slot → Prop}
theorem cw_isK {d : Dt} {m n : String} {b : Bool} (hd : kindD d = some m) (hk : kitB m n = some b) (h : R (.bl b) S) : CW X g Fr (.builtin "isinstance") [.im d, .im (.ty n)] S R := cw_of call_isi fun σ H0 H vs st ra => by
  obtain ⟨v, w, rfl, r, q⟩ := arg2 ra
  cases q
  exact ⟨v, _, _, _, b, rfl, .ty n, kind_of (r.mono st.ex) hd, kit_ty hk, done st (.bl _) h⟩
theorem kb (m n : String) (b : Bool) (h : kitB m n = some b := by decide +kernel) : kitB m n = some b := h
/-- an own class asked of a price list: yes -/
theorem cw_isShop {ps : List Pack} (hC : IsiC X.K g.shop) (hk : PySem.W.kitOne X.K (.ref g.shop) (.ref g.shop) = some true) (h : R (.bl true) S) : CW X g Fr (.builtin "isinstance") [.im (.shop ps), .im (.cls g.shop)] S R :=
  cw_isC hC (by simp [tyD]) hk h
/-- what is walked: a list or a tuple -/
theorem pi_seq {tg l : Expr} {tl : TE} (hl : PE X l tl) : PI X tg l (fun σ H P => tl σ H fun x H1 => ∃ a, x = .ref a ∧ (((∃ xs, SqL X.K H1 a xs) ∧ P (Itl X.K a) H1) ∨ ((∃ xs, SqT X.K H1 a xs) ∧ P (Itt X.K a) H1))) := by
  refine ⟨fun pins s σ H P I h => thn (hl.run pins s σ H _ I h) fun v s1 z => ?_⟩
  obtain ⟨x, H1, I1, r1, a, e, q⟩ := z
  subst e
  cases r1
  have fo : ∀ (o : Obj) (b : Addr), b ∈ [s1.heap.objs.size] → FpOk X pins H1 b := fun o b hb => by
    have e := List.mem_singleton.mp hb
    subst e
    exact I1.fpOk (Nat.le_refl _) (I1.hok.fresh (Nat.le_refl _))
  rcases q with ⟨⟨xs, hq⟩, q⟩ | ⟨⟨xs, hq⟩, q⟩
  · obtain ⟨its, rv, p, hz⟩ := I1.list hq
    exact wpAny_pyIter_list p.isList ⟨s1.heap.objs.size, [s1.heap.objs.size], _, _, H1, rfl, I1.kept (t' := s1.toks) (fun b o e => Heap.get?_push_of_some _ e), turn_list a _, ⟨_, Heap.get?_push_size _ rfl, rfl, rfl⟩, fo default, q⟩
  · obtain ⟨its, rv, p, hz⟩ := I1.tuple hq
    exact wpAny_pyIter_tuple p ⟨s1.heap.objs.size, [s1.heap.objs.size], _, _, H1, rfl, I1.kept (t' := s1.toks) (fun b o e => Heap.get?_push_of_some _ e), turn_tuple a _, ⟨_, Heap.get?_push_size _ rfl, rfl, rfl⟩, fo default, q⟩
theorem iw_s {tg iter : Expr} {P : List Dt → List Slot → Prop} (h : EW X g Fr iter S fun d S1 => ∃ xs, itemsOf d = some xs ∧ P xs S1) : IW X g Fr tg iter S P := fun σ H0 H st => isem_of (pi_seq pe_sem) (sem_mono (h σ H0 H st) fun v H1 ⟨d, S1, H01, e1, st1, r, xs, hx, q⟩ => by
  obtain ⟨a, vs, rfl, ha, l⟩ := items_rep r hx
  refine ⟨a, rfl, ?_⟩
  rcases ha with z | z
  · exact .inl ⟨⟨_, sq_of (st1.ex _ _ z)⟩, xs, S1, H01, e1, st1, walks_l z l, q⟩
  · exact .inr ⟨⟨_, st_of (st1.ex _ _ z)⟩, xs, S1, H01, e1, st1, walks_t z l, q⟩)
theorem get_map {α : Type} {enc : α → Dt} {as : List α} {i : Nat} {x : Dt} (h : (as.map enc)[i]? = some x) : ∃ a, as[i]? = some a ∧ x = enc a := by
  rw [List.getElem?_map] at h
  cases e : as[i]? with
  | none => rw [e] at h; cases h
  | some a => rw [e] at h; exact ⟨a, rfl, (Option.some.inj h).symm⟩
theorem take_snoc {α : Type} {as : List α} {i : Nat} {a : α} (h : as[i]? = some a) : as.take (i + 1) = as.take i ++ [a] := by
  rw [List.take_add_one, h]; rfl
/-- [f(a) for a in as] -/
theorem lc_map {α : Type} {enc f : α → Dt} {Z : List Dt → Prop} (as : List α) {scope : Scope} {vs : List Nat} {tg elt : Expr} (hl : as.length < 100000)
    (h : ∀ (Fr : Hp) (i : Nat) (a : α), as[i]? = some a → ∀ (s : Shared) (H' : Hp) (C : Addr) (cl : List (Str × Addr)) (fp : List Addr), GV (X.blk s H' scope (compEnvC scope cl C X.env) fp) g Fr vs tg (enc a) (wipeS S vs) fun S2 => ∀ (s : Shared) (H' : Hp) (C : Addr) (cl : List (Str × Addr)) (fp : List Addr),
      EW (X.blk s H' scope (compEnvC scope cl C X.env) fp) g Fr elt S2 fun y S4 => wipeS S4 vs = wipeS S vs ∧ y = f a) (hR : Z (as.map f)) :
    ∃ Pv : Nat → List Dt → Prop, Pv 0 [] ∧ LcOb X g scope vs tg elt [] (as.map enc) S Pv ∧ ∀ acc, Pv (as.map enc).length acc → Z acc := by
  refine ⟨fun i acc => acc = (as.take i).map f, by simp, fun Fr i x acc hx hp s H' C cl fp => ?_, fun acc e => ?_⟩
  · obtain ⟨a, ha, rfl⟩ := get_map hx
    refine fun σ H0 H v st r => gsem_mono (h Fr i a ha s H' C cl fp σ H0 H v st r) fun σ' H' z => ⟨z.1, ?_⟩
    obtain ⟨S2, H02, e2, st2, q⟩ := z.2
    refine ⟨S2, H02, e2, st2, fun _ s H' C cl fp σ H0 H st => sem_mono (q s H' C cl fp σ H0 H st) fun v H' w => ?_, nofun⟩
    obtain ⟨d, S4, H04, e4, st4, r4, w1, w2⟩ := w
    have hi : i < as.length := (List.getElem?_eq_some_iff.mp ha).1
    refine ⟨d, S4, H04, e4, st4, r4, w1, ?_, ?_⟩
    · rw [show acc = _ from hp, List.length_map, List.length_take]; omega
    · show acc ++ [d] = (as.take (i + 1)).map f
      rw [show acc = _ from hp, w2, take_snoc ha]; simp
  · have e : acc = (as.take (as.map enc).length).map f := e
    rw [e, List.length_map, List.take_length]; exact hR
/-- [f(a) for a in as if c(a)] -/
theorem lc_filter {α : Type} {enc f : α → Dt} {Z : List Dt → Prop} (c : α → Bool) (as : List α) {scope : Scope} {vs : List Nat} {tg elt cnd : Expr} (hl : as.length < 100000)
    (h : ∀ (Fr : Hp) (i : Nat) (a : α), as[i]? = some a → ∀ (s : Shared) (H' : Hp) (C : Addr) (cl : List (Str × Addr)) (fp : List Addr), GV (X.blk s H' scope (compEnvC scope cl C X.env) fp) g Fr vs tg (enc a) (wipeS S vs) fun S2 => ∀ (s : Shared) (H' : Hp) (C : Addr) (cl : List (Str × Addr)) (fp : List Addr),
      TW (X.blk s H' scope (compEnvC scope cl C X.env) fp) g Fr cnd S2 fun b S3 => b = c a ∧ wipeS S3 vs = wipeS S vs ∧ (b = true → ∀ (s : Shared) (H' : Hp) (C : Addr) (cl : List (Str × Addr)) (fp : List Addr), EW (X.blk s H' scope (compEnvC scope cl C X.env) fp) g Fr elt S3 fun y S4 => wipeS S4 vs = wipeS S vs ∧ y = f a)) (hR : Z ((as.filter c).map f)) :
    ∃ Pv : Nat → List Dt → Prop, Pv 0 [] ∧ LcOb X g scope vs tg elt [cnd] (as.map enc) S Pv ∧ ∀ acc, Pv (as.map enc).length acc → Z acc := by
  refine ⟨fun i acc => acc = ((as.take i).filter c).map f, by simp, fun Fr i x acc hx hp s H' C cl fp => ?_, fun acc e => ?_⟩
  · obtain ⟨a, ha, rfl⟩ := get_map hx
    refine fun σ H0 H v st r => gsem_mono (h Fr i a ha s H' C cl fp σ H0 H v st r) fun σ' H' z => ⟨z.1, ?_⟩
    obtain ⟨S2, H02, e2, st2, q⟩ := z.2
    refine ⟨S2, H02, e2, st2, fun s H' C cl fp σ H0 H st => semT_mono (q s H' C cl fp σ H0 H st) fun b H' w => ?_⟩
    obtain ⟨S3, H03, e3, st3, eb, w1, w2⟩ := w
    have hi : i < as.length := (List.getElem?_eq_some_iff.mp ha).1
    refine ⟨S3, H03, e3, st3, fun hb s H' C cl fp σ H0 H st => sem_mono (w2 hb s H' C cl fp σ H0 H st) fun v H' w => ?_, fun hb => ⟨w1, ?_⟩⟩
    · obtain ⟨d, S4, H04, e4, st4, r4, w1, w2⟩ := w
      refine ⟨d, S4, H04, e4, st4, r4, w1, ?_, ?_⟩
      · rw [show acc = _ from hp, List.length_map]
        have := List.length_filter_le c (as.take i)
        rw [List.length_take] at this
        omega
      · show acc ++ [d] = ((as.take (i + 1)).filter c).map f
        rw [show acc = _ from hp, w2, take_snoc ha, List.filter_append]
        rw [eb] at hb
        simp [hb]
    · show acc = ((as.take (i + 1)).filter c).map f
      rw [show acc = _ from hp, take_snoc ha, List.filter_append]
      rw [eb] at hb
      simp [hb]
  · have e : acc = ((as.take (as.map enc).length).filter c).map f := e
    rw [e, List.length_map, List.take_length]; exact hR
theorem notin_set {a : Addr} {s : Slot} : ∀ {S : List Slot} {i : Nat}, S[i]? = some s → (S.flatMap Slot.fp).Nodup → a ∈ s.fp → a ∉ (S.set i .no).flatMap Slot.fp
  | [], i, h, _, _ => by simp at h
  | t :: r, i, h, nd, m => fun hm => by
    rw [List.flatMap_cons] at nd
    obtain ⟨n1, n2, n3⟩ := List.nodup_append.mp nd
    cases i with
    | zero =>
      simp at h; subst h
      rw [List.set_cons_zero, List.flatMap_cons] at hm
      exact n3 a m a (by simpa [Slot.fp] using hm) rfl
    | succ i =>
      have h' : r[i]? = some s := by simpa using h
      rw [List.set_cons_succ, List.flatMap_cons] at hm
      rcases List.mem_append.mp hm with q | q
      · exact n3 a q a (mem_fp (List.mem_iff_getElem?.mpr ⟨i, h'⟩) m) rfl
      · exact notin_set h' n2 m q
/-- the own list is changed no more: a datum from then on -/
theorem StR.freeze {K : PySem.W.Frag} {σ : L2.St} {H0 H : Hp} {i : Nat} {p : Addr} {ds : List Dt} (st : StR K g Fr H0 H σ S) (h : S[i]? = some (.own p (.lst ds))) : ∃ H0', Ex H0 H0' ∧ StR K g Fr H0' H σ (S.set i (.im (.lst ds))) := by
  obtain ⟨hσ, vs, hp, r⟩ := st.own_at h
  have fr := st.free p (mem_fp (List.mem_iff_getElem?.mpr ⟨i, h⟩) (by simp [Slot.fp, OD.fp]))
  have st1 := (st.forget (i := i)).adopt hp fr.1 fr.2 (notin_set h st.nd (by simp [Slot.fp, OD.fp]))
  have ex : Ex H0 (upd H0 p (.lst vs)) := Ex.new fr.1
  have st2 := st1.set_im (i := i) (v := .ref p) (d := .lst ds) (.lst upd_same (r.mono ex))
  refine ⟨_, ex, ?_⟩
  have e1 : σ.set i (some (.ref p)) = σ := by
    apply List.ext_getElem?
    intro j
    by_cases e : i = j
    · subst e
      rw [List.getElem?_set_self (List.getElem?_eq_some_iff.mp hσ).1, hσ]
    · rw [List.getElem?_set_ne e]
  rw [e1, List.set_set] at st2
  exact st2
theorem sw_freeze (i : Nat) {sts : List Stmt} {D : DE} {p : Addr} {ds : List Dt} (hS : S[i]? = some (.own p (.lst ds))) (h : SW X g Fr sts (S.set i (.im (.lst ds))) D) : SW X g Fr sts S D := fun σ H0 H st => by
  obtain ⟨H0', e, st'⟩ := st.freeze hS
  exact semSs_mono (h σ H0' H st') (ends_back e)
theorem pk_inj {p q : Pack} : pk p = pk q ↔ p = q := by
  obtain ⟨a, b⟩ := p; obtain ⟨c, d⟩ := q
  simp [pk]
theorem dep_pk (p : Pack) : depD (pk p) ≤ 1 := by simp [pk, depD, depL]
theorem EqOk.pk (p : Pack) : EqOk (DL.pk p) := ⟨rfl, Nat.le_trans (dep_pk p) (by decide)⟩
theorem EqOk.lstP (ps : List Pack) : EqOk (.lst (ps.map DL.pk)) := ⟨by simp only [noBool]; exact noBoolL_map (fun _ => rfl) ps, by
  have := depL_map (f := DL.pk) (n := 1) dep_pk ps
  simp only [depD]; omega⟩
theorem EqOk.tupP (ps : List Pack) : EqOk (.tup (ps.map DL.pk)) := ⟨by simp only [noBool]; exact noBoolL_map (fun _ => rfl) ps, by
  have := depL_map (f := DL.pk) (n := 1) dep_pk ps
  simp only [depD]; omega⟩
theorem map_pk_inj {ps qs : List Pack} : ps.map pk = qs.map pk ↔ ps = qs := by
  constructor
  · intro h
    exact (List.map_inj_right (f := pk) (fun a b e => pk_inj.mp e)).mp h
  · intro h; rw [h]
theorem at_last {xs : List Dt} {x : Dt} (h : xs.getLast? = some x) : atI xs (-1) = some x := by
  unfold atI ixN
  rw [List.getLast?_eq_getElem?] at h
  have hl : 0 < xs.length := by
    cases xs with
    | nil => simp at h
    | cons a r => simp
  rw [if_neg (by decide), if_pos (by omega)]
  show xs[((-1 : Int) + xs.length).toNat]? = _
  rw [show ((-1 : Int) + xs.length).toNat = xs.length - 1 by omega]
  exact h
/-- a < b < c as a test -/
theorem tw_chain {T : Bool → List Slot → Prop} {a b c : Expr} {op op' : CmpOp} {pos : Pos} (h : EW X g Fr a S fun d1 S1 => EW X g Fr b S1 fun d2 S2 => OpW X g Fr (compareOp op) d1 d2 S2 fun d S3 => ∃ k, d = .bl k ∧ (k = true → EW X g Fr c S3 fun d3 S4 => OpW X g Fr (compareOp op') d2 d3 S4 fun d S5 => ∃ k, d = .bl k ∧ T k S5) ∧ (k = false → T false S3))
    (hm : lastMarks [op, op'] [b, c] = false := by with_unfolding_all rfl) : TW X g Fr (.Compare a [op, op'] [b, c] pos) S T :=
  tw_of (pt_chain op_sem op_sem pe_sem pe_sem pe_sem hm) fun σ H0 H st => sem_mono (h σ H0 H st) fun v1 H1 ⟨d1, S1, H01, e1, st1, r1, h1⟩ => sem_mono (h1 σ H01 H1 st1) fun v2 H2 ⟨d2, S2, H02, e2, st2, r2, h2⟩ =>
    rsem_mono (h2 σ H02 H2 v1 v2 st2 (r1.mono e2) r2) fun v H' ⟨d, S3, H03, e3, st3, r3, k, ek, ht, hf⟩ => by
      subst ek
      cases r3
      refine ⟨k, rfl, ?_⟩
      cases k with
      | true =>
        rw [if_pos rfl]
        exact sem_mono (ht rfl σ H03 H' st3) fun v4 H4 ⟨d4, S4, H04, e4, st4, r4, h4⟩ => rsem_mono (h4 σ H04 H4 v2 v4 st4 (r2.mono (e3.trans e4)) r4) fun v5 H5 ⟨d5, S5, H05, e5, st5, r5, k5, ek5, q⟩ => by
          subst ek5
          cases r5
          exact ⟨k5, rfl, S5, H05, (((e1.trans e2).trans e3).trans e4).trans e5, st5, q⟩
      | false =>
        rw [if_neg Bool.false_ne_true]
        exact ⟨false, rfl, S3, H03, (e1.trans e2).trans e3, st3, hf rfl⟩
theorem last_at {α : Type} {l : List α} {d : α} (h : l ≠ []) : l.getLast? = some (l.getLastD d) := by
  cases l with
  | nil => exact absurd rfl h
  | cons x r => rw [List.getLastD_eq_getLast?, List.getLast?_cons]; rfl
theorem nb_ : ¬ (("needed" : Str) = "best") := by decide +kernel
theorem nk_ : ¬ (("needed" : Str) = "known") := by decide +kernel
theorem bk_ : ¬ (("best" : Str) = "known") := by decide +kernel
theorem put1 (a : Dt) : putD "needed" a [] = [(("needed" : Str), a)] := rfl
theorem put2 (a b : Dt) : putD "best" b [(("needed" : Str), a)] = [(("needed" : Str), a), (("best" : Str), b)] := by unfold putD; rw [if_neg nb_]; rfl
theorem put3 (a b c : Dt) : putD "known" c [(("needed" : Str), a), (("best" : Str), b)] = [(("needed" : Str), a), (("best" : Str), b), (("known" : Str), c)] := by
  unfold putD; rw [if_neg nk_]; unfold putD; rw [if_neg bk_]; rfl
theorem lookB (a b : Dt) : List.lookup ("best" : Str) [(("needed" : Str), a), (("best" : Str), b)] = some b := by
  have h : (("best" : Str) == "needed") = false := by decide +kernel
  have h2 : (("best" : Str) == "best") = true := by decide +kernel
  simp only [List.lookup, h, h2]
theorem lookN (a b : Dt) : List.lookup ("needed" : Str) [(("needed" : Str), a), (("best" : Str), b)] = some a := by
  have h2 : (("needed" : Str) == "needed") = true := by decide +kernel
  simp only [List.lookup, h2]
end
end DL

set_option Elab.async false
set_option linter.all false
set_option autoImplicit false
set_option maxRecDepth 100000
set_option maxHeartbeats 2000000
/-! The data layer, ninth part: the source of draws, operators of price lists, PriceList(*e). -/
namespace DL
open PySem PySem.Spec PyProof.Rows L2 PK
section
variable {K : PySem.W.Frag} {g : Cl} {Fr H0 H : Hp} {σ : L2.St} {S : List Slot}
theorem fp_set {p : Addr} {o o' : OD} (hfp : o'.fp p = o.fp p) : ∀ {S : List Slot} {i : Nat}, S[i]? = some (.own p o) → (S.set i (.own p o')).flatMap Slot.fp = S.flatMap Slot.fp
  | [], _, h => by simp at h
  | s :: t, 0, h => by simp at h; subst h; simp [Slot.fp, hfp]
  | s :: t, i + 1, h => by simp only [List.set_cons_succ, List.flatMap_cons]; rw [fp_set hfp (S := t) (i := i) (by simpa using h)]
theorem two_slots {a : Addr} : ∀ {S : List Slot} {i j : Nat} {s t : Slot}, i ≠ j → S[i]? = some s → S[j]? = some t → (S.flatMap Slot.fp).Nodup → a ∈ s.fp → a ∈ t.fp → False
  | [], i, j, s, t, _, h, _, _, _, _ => by simp at h
  | x :: l, i, j, s, t, ne, h1, h2, nd, m1, m2 => by
    rw [List.flatMap_cons] at nd
    obtain ⟨n1, n2, n3⟩ := List.nodup_append.mp nd
    cases i with
    | zero =>
      cases j with
      | zero => exact ne rfl
      | succ j => simp at h1 h2; subst h1; exact n3 a m1 a (mem_fp (List.mem_iff_getElem?.mpr ⟨j, h2⟩) m2) rfl
    | succ i =>
      cases j with
      | zero => simp at h1 h2; subst h2; exact n3 a m2 a (mem_fp (List.mem_iff_getElem?.mpr ⟨i, h1⟩) m1) rfl
      | succ j => exact two_slots (i := i) (j := j) (by omega) (by simpa using h1) (by simpa using h2) n2 m1 m2
/-- the own object at p is another from then on -/
theorem own_chg {i : Nat} {p : Addr} {o o' : OD} {u : HO} (st : StR K g Fr H0 H σ S) (hS : S[i]? = some (.own p o)) (hm : p ∈ o.fp p) (hfp : o'.fp p = o.fp p) (r : OwR K g H0 (upd H p u) p o') : StR K g Fr H0 (upd H p u) σ (S.set i (.own p o')) := by
  have hi : i < S.length := (List.getElem?_eq_some_iff.mp hS).1
  have hp := st.free p (mem_fp (List.mem_iff_getElem?.mpr ⟨i, hS⟩) hm)
  refine ⟨st.ex.mut hp.1, st.fr.mut hp.2, st.dis, by simp [st.len], fun j s h => ?_, by rw [fp_set hfp hS]; exact st.nd, fun a ha => st.free a (by rw [fp_set hfp hS] at ha; exact ha)⟩
  by_cases e : i = j
  · subst e
    rw [List.getElem?_set_self hi] at h
    cases h
    exact ⟨(st.own_at hS).1, r⟩
  · rw [List.getElem?_set_ne e] at h
    refine (st.sl j s h).keep (Ex.refl _) fun a ha u hu => ?_
    rw [upd_ne]
    · exact hu
    · intro e2
      subst e2
      exact two_slots e hS h st.nd hm ha
/-- less is said of the own object -/
theorem StR.conv {i : Nat} {p : Addr} {o o' : OD} (st : StR K g Fr H0 H σ S) (hS : S[i]? = some (.own p o)) (hfp : o'.fp p = o.fp p) (r : OwR K g H0 H p o → OwR K g H0 H p o') : StR K g Fr H0 H σ (S.set i (.own p o')) := by
  have hi : i < S.length := (List.getElem?_eq_some_iff.mp hS).1
  refine ⟨st.ex, st.fr, st.dis, by simp [st.len], fun j s h => ?_, by rw [fp_set hfp hS]; exact st.nd, fun a ha => st.free a (by rw [fp_set hfp hS] at ha; exact ha)⟩
  by_cases e : i = j
  · subst e
    rw [List.getElem?_set_self hi] at h
    cases h
    exact ⟨(st.own_at hS).1, r (st.own_at hS).2⟩
  · rw [List.getElem?_set_ne e] at h
    exact st.sl j s h
theorem set_same {i : Nat} {s : Slot} (h : S[i]? = some s) : S.set i s = S := by
  apply List.ext_getElem?
  intro j
  by_cases e : i = j
  · subst e; rw [List.getElem?_set_self (List.getElem?_eq_some_iff.mp h).1, h]
  · rw [List.getElem?_set_ne e]
end
section
variable {X : Cx} {g : Cl} {Fr : Hp} {S : List Slot} {R : Dt → List Slot → Prop} {T : Slot → List Slot → Prop} {D : DE} {pos : Pos} {p : Addr}
/-! ### the source of draws -/
theorem ef_src {e : Expr} (h : EF X g Fr e S fun r S1 => ∃ p a b, r = .own p (.lst [.int a, .int b]) ∧ SrcOk a b ∧ T (.own p .src) S1) : EF X g Fr e S T := fun σ H0 H st => sem_mono (h σ H0 H st) fun v H1 ⟨r, S1, H01, e1, st1, p, a, b, er, ok, q⟩ => by
  subst er
  have := st1.conv (i := S1.length) (p := p) (o := .lst [.int a, .int b]) (o' := .src) (by simp) rfl fun ⟨vs, h1, h2⟩ => ⟨a, b, by rw [h1, h2.ints (ns := [a, b])]; rfl, ok⟩
  refine ⟨.own p .src, S1, H01, e1, ?_, q⟩
  simpa using this
theorem ew_src0 (i : Nat) {x : Str} {xp bp : Pos} {j} (hS : S[i]? = some (.own p .src)) (h : ∀ a : Int, 0 ≤ a → R (.int a) S)
    (hN : X.N[i]? = some x := by rfl) (hv : Vis X.env.scope x := by first | exact Or.inl rfl | exact Or.inr (Or.inl rfl) | exact Or.inr (Or.inr rfl)) (hd : (x == ("__debug__" : Str)) = false := by decide) (hcd : (x == ("__classdict__" : Str)) = false := by decide) : EW X g Fr (.Subscript (.Name x xp) (.Constant (.int 0) j bp) pos) S R :=
  ew_of (pe_ix ix_list (pe_var hN hv hd hcd) pe_int (by exact fun _ _ => rfl)) fun σ H0 H st => by
    obtain ⟨h1, a, b, h2, ok⟩ := st.own_at hS
    exact ⟨.ref p, h1, p, _, 0, .int a, rfl, rfl, sq_of h2, rfl, done st (.int a) (h a ok.1)⟩
theorem ew_src1 (i : Nat) {x : Str} {xp bp : Pos} {j} (hS : S[i]? = some (.own p .src)) (h : ∀ a : Int, 0 ≤ a → a ≤ 2147483646 → R (.int a) S)
    (hN : X.N[i]? = some x := by rfl) (hv : Vis X.env.scope x := by first | exact Or.inl rfl | exact Or.inr (Or.inl rfl) | exact Or.inr (Or.inr rfl)) (hd : (x == ("__debug__" : Str)) = false := by decide) (hcd : (x == ("__classdict__" : Str)) = false := by decide) : EW X g Fr (.Subscript (.Name x xp) (.Constant (.int 1) j bp) pos) S R :=
  ew_of (pe_ix ix_list (pe_var hN hv hd hcd) pe_int (by exact fun _ _ => rfl)) fun σ H0 H st => by
    obtain ⟨h1, a, b, h2, ok⟩ := st.own_at hS
    exact ⟨.ref p, h1, p, _, 1, .int b, rfl, rfl, sq_of h2, rfl, done st (.int b) (h b ok.2.1 ok.2.2)⟩
/-- source[0] = e, source[1] = e -/
theorem s_src {k : Int} (hk : k = 0 ∨ k = 1) (i : Nat) {x : Str} {e : Expr} {xp bp tp : Pos} {j} (h : EW X g Fr e S fun d S1 => ∃ a, d = .int a ∧ 0 ≤ a ∧ (k = 1 → a ≤ 2147483646) ∧ S1[i]? = some (.own p .src) ∧ D.nx S1)
    (hN : X.N[i]? = some x := by rfl) (hv : Vis X.env.scope x := by first | exact Or.inl rfl | exact Or.inr (Or.inl rfl) | exact Or.inr (Or.inr rfl)) (hd : (x == ("__debug__" : Str)) = false := by decide) (hcd : (x == ("__classdict__" : Str)) = false := by decide)
    (ha : ∀ v, assign (.Subscript (.Name x xp) (.Constant (.int k) j bp) tp) X.env v = (do
      let ov ← holding [v] (eval (.Name x xp) X.env)
      let iv ← holding [v, ov] (eval (.Constant (.int k) j bp) X.env)
      standAt tp
      holding [v, ov, iv] (setItem ov iv v)
      release [v, ov, iv] []) := by intro _; rfl)
    (hs : swapsWithSole [.Subscript (.Name x xp) (.Constant (.int k) j bp) tp] e pos.line X.env = pure false := by rfl) (hw : swappedStores [.Subscript (.Name x xp) (.Constant (.int k) j bp) tp] e X.env = pure none := by rfl) (h1 : (assignEach [.Subscript (.Name x xp) (.Constant (.int k) j bp) tp] X.env).map (·.2) = [assign (.Subscript (.Name x xp) (.Constant (.int k) j bp) tp) X.env] := by rfl) :
    S1 X g Fr (.Assign [.Subscript (.Name x xp) (.Constant (.int k) j bp) tp] e pos) S D :=
  fun σ H0 H st => semS_of (ps_asg pe_sem (pg_sub (pe_var hN hv hd hcd) pe_int set_list ha) hs hw h1) (sem_mono (h σ H0 H st) fun v H1 ⟨d, S1, H01, e1, st1, r, z, ez, z0, z1, hS, q⟩ => by
    subst ez
    cases r
    obtain ⟨hσ, a, b, h2, ok⟩ := st1.own_at hS
    have fin : ∀ a' b', SrcOk a' b' → nxP X.K g Fr H0 D.nx σ (upd H1 p (.lst [.int a', .int b'])) := fun a' b' ok' => by
      have := own_chg (o' := .src) (u := .lst [.int a', .int b']) st1 hS (by simp [OD.fp]) rfl ⟨a', b', upd_same, ok'⟩
      rw [set_same hS] at this
      exact ⟨S1, H01, e1, this, q⟩
    rcases hk with rfl | rfl
    · exact ⟨.ref p, hσ, p, _, 0, 0, rfl, rfl, h2, rfl, fin z b ⟨z0, ok.2⟩⟩
    · exact ⟨.ref p, hσ, p, _, 1, 1, rfl, rfl, h2, rfl, fin a z ⟨ok.1, z0, z1 rfl⟩⟩)
/-! ### operators of price lists -/
structure BinD (P : Program) (w : World) (K : PySem.W.Frag) (mg : Str → Option Value) (base : Heap) (g : Cl) (k : Nat) (x : Str) (F : FM) : Prop where
  mono : Mono F
  first : PySem.W.selfFirst K g.shop = true
  ex : ∃ f : Addr, PySem.W.findIn K (.ref g.shop) x = some (some (.ref f)) ∧ PySem.W.isFn K (.ref f) = true ∧ FnR P w K mg base CX0 k f (spS K g F)
theorem shop_at {K : PySem.W.Frag} {H : Hp} {v : V} {ps : List Pack} (r : Rep K g H v (.shop ps)) : ∃ a dx fs, v = .ref a ∧ H a = some (.ins g.shop dx fs) := by
  cases r with
  | shop ok h1 h2 l h3 h4 => exact ⟨_, _, _, rfl, h1⟩
theorem own_run {k : Nat} {F : FM} {f : Addr} {σ σ' : L2.St} {H0 H : Hp} {v1 v2 : V} {d1 d2 : Dt} {pins : List (Addr × Obj)} {s : Shared} {u1 u2 : Value} (hm : Mono F) (G : FnR X.prog X.w X.K X.mg X.base CX0 k f (spS X.K g F)) (hr : Room k X.A) (I : Inv X pins σ' H s) (ra : RelV v1 u1) (rb : RelV v2 u2)
    (st : StR X.K g Fr H0 H σ S) (r1 : Rep X.K g H0 v1 d1) (r2 : Rep X.K g H0 v2 d2) (h : F [.im d1, .im d2] fun r => ∃ d, r = .im d ∧ R d S) :
    wpAny (model X.prog X.w) X.A (call (.ref f) [u1, u2]) (PySem.W.CmpBack (EP X pins σ' (PostE X.K g Fr σ H0 R))) X.xe s := by
  have hp := call_post (T := fun r S2 => ∃ d, r = .im d ∧ R d S2) hm st (.im r1 (.im r2 .nil)) (by simp [Slot.fp]) h
  refine wpAny_mono (wpAny_call (run_fnR (us := [u1, u2]) (vs := [v1, v2]) G hr pass0 I (.cons ra (.cons rb .nil)) hp)) (fun w s' z => ?_) fun _ _ x => x
  obtain ⟨z', H', I', rz, r, S3, H05, e5, st5, d, er, q5⟩ := z
  subst er
  exact SlX.cmpback rz ⟨z', H', I', rz, d, S3, H05, e5, st5.unsnoc, st5.last, q5⟩
theorem ow_bin {op : Operator} {ps qs : List Pack} {k : Nat} {F : FM} (G : BinD X.prog X.w X.K X.mg X.base g k (PySem.dunder op.info.2) F) (hr : Room k X.A) (h : F [.im (.shop ps), .im (.shop qs)] fun r => ∃ d, r = .im d ∧ R d S) : OpW X g Fr (binaryOp op) (.shop ps) (.shop qs) S R := by
  obtain ⟨f, hf, hfn, Gf⟩ := G.ex
  intro σ H0 H v1 v2 st r1 r2 pins s σ' u1 u2 I ra rb
  obtain ⟨a, dx, fs, rfl, ha⟩ := shop_at r1
  obtain ⟨b, dy, gs, rfl, hb⟩ := shop_at r2
  cases (show u1 = Value.ref a from ra)
  cases (show u2 = Value.ref b from rb)
  obtain ⟨mA, J, _⟩ := ins_get I.hok (st.ex _ _ ha)
  obtain ⟨mB, J', _⟩ := ins_get I.hok (st.ex _ _ hb)
  obtain ⟨od, J, _⟩ := J.look
  obtain ⟨od', J', _⟩ := J'.look
  obtain ⟨m, hF⟩ := I.fr
  exact PySem.W.binop_K hF I.ok.mod.kin J J'.type G.first hf hfn (own_run G.mono Gf hr I ra rb st r1 r2 h)
/-- x == y, both price lists -/
theorem ow_eqS {ps qs : List Pack} {k : Nat} {F : FM} (G : BinD X.prog X.w X.K X.mg X.base g k "__eq__" F) (hr : Room k X.A) (h : F [.im (.shop ps), .im (.shop qs)] fun r => ∃ d, r = .im d ∧ R d S) : OpW X g Fr (compareOp .Eq) (.shop ps) (.shop qs) S R := by
  obtain ⟨f, hf, hfn, Gf⟩ := G.ex
  intro σ H0 H v1 v2 st r1 r2 pins s σ' u1 u2 I ra rb
  obtain ⟨a, dx, fs, rfl, ha⟩ := shop_at r1
  obtain ⟨b, dy, gs, rfl, hb⟩ := shop_at r2
  cases (show u1 = Value.ref a from ra)
  cases (show u2 = Value.ref b from rb)
  obtain ⟨mA, J, _⟩ := ins_get I.hok (st.ex _ _ ha)
  obtain ⟨mB, J', _⟩ := ins_get I.hok (st.ex _ _ hb)
  obtain ⟨od, J, _⟩ := J.look
  obtain ⟨od', J', _⟩ := J'.look
  obtain ⟨m, hF⟩ := I.fr
  exact PySem.W.cmp_K (op := .Eq) (tb := .ref g.shop) hr.units0 hF I.ok.mod.kin J J'.type (by simp [PySem.W.notFirst]) hf hfn (own_run G.mono Gf hr I ra rb st r1 r2 h)
/-! ### PriceList(*e) -/
theorem pe_makeS {k : Nat} {f C : Addr} {sp : Sp} {E : XK} {x : Str} {e : Expr} {te : TE} {p sp_ : Pos} {CX : CXT} (M : Mk X.K C f) (F : FnR X.prog X.w X.K X.mg X.base CX k f sp) (hr : Room (k + 1) X.A) (hg : Gl X x) (hm : X.mg x = some (.ref C)) (hx : Passes CX X E) (he : PE X e te) (hd : (x == ("__debug__" : Str)) = false := by decide)
    (hst : starEach [.Starred e sp_] X.env = [(true, eval e X.env)] := by rfl) :
    PE X (.Call (.Name x p) [.Starred e sp_] [] pos) (fun σ H Q => te σ H fun y H1 => ∃ a xs, y = V.ref a ∧ (SqT X.K H1 a xs ∨ SqL X.K H1 a xs) ∧ ∀ x dx, H1 x = Option.none → H1 dx = Option.none → dx ≠ x →
      sp (V.ref x :: xs) (upd (upd H1 dx (.own x)) x (.ins C dx [])) (fun v H2 => v = .non ∧ Q (.ref x) H2) E) := by
  refine ⟨fun pins s σ H Q I h => ?_⟩
  refine wpAny_Call_Name_kw (ld_glob I hg hm ?_ hd)
  refine PySem.W.callWith_S (h₀ := X.base) I.ok.mod.kin M.kp (thn (he.run pins s σ H _ I h) fun v s1 ⟨y, H1, I1, ry, a, xs, ey, hxs, q⟩ => ?_) hst
  subst ey
  obtain rfl : v = Value.ref a := ry
  exact StX.star_any I1 hxs fun us s2 I2 rv => ⟨I2.kIn, StX.run_makeR M F hr hx I2 rv q⟩
theorem ew_makeS {e : Expr} {q sp_ : Pos} {k : Nat} (M : MkS X.prog X.w X.K X.mg X.base g k) (hr : Room (k + 1) X.A)
    (h : EW X g Fr e S fun d S1 => ∃ packs, itemsOf d = some (packs.map pk) ∧ packs ≠ [] ∧ (∀ q ∈ packs, OkPack q) ∧ packs.length ≤ 30 ∧ R (.shop (neededOf packs)) S1) (hg : Gl X "PriceList" := by rfl)
    (hst : starEach [.Starred e sp_] X.env = [(true, eval e X.env)] := by rfl) : EW X g Fr (.Call (.Name "PriceList" q) [.Starred e sp_] [] pos) S R := by
  obtain ⟨f, Mf, G⟩ := M.ex
  refine ew_of (pe_makeS Mf G hr hg M.at_ pass0 pe_sem (by decide) hst) fun σ H0 H st => sem_mono (h σ H0 H st) fun v H1 ⟨d, S1, H01, e1, st1, r, packs, hi, hne, hok, hl, q⟩ => ?_
  obtain ⟨a, vs, rfl, ha, rl⟩ := items_rep r hi
  refine ⟨a, vs, rfl, ?_, make_go st1 rl hne hok hl q e1⟩
  rcases ha with z | z
  · exact .inr (sq_of (st1.ex _ _ z))
  · exact .inl (st_of (st1.ex _ _ z))
end
end DL

set_option Elab.async false
set_option linter.all false
set_option autoImplicit false
set_option maxRecDepth 100000
set_option maxHeartbeats 2000000
/-! The data layer, tenth part: forgetting slots, what a law promises. -/
namespace DL
open PySem PySem.Spec PyProof.Rows L2 PK
/-- some slots are forgotten -/
def Fgt : List Slot → List Slot → Prop
  | [], [] => True
  | s :: S, t :: T => (t = s ∨ t = .no) ∧ Fgt S T
  | _, _ => False
theorem Fgt.at : ∀ {S T : List Slot} {i : Nat} {t : Slot}, Fgt S T → T[i]? = some t → ∃ s, S[i]? = some s ∧ (t = s ∨ t = .no)
  | [], [], i, t, _, h => by simp at h
  | s :: S, t :: T, 0, u, f, h => by simp at h; subst h; exact ⟨s, rfl, f.1⟩
  | s :: S, t :: T, i + 1, u, f, h => by
    obtain ⟨x, h1, h2⟩ := Fgt.at (S := S) (T := T) (i := i) f.2 (by simpa using h)
    exact ⟨x, by simpa using h1, h2⟩
  | [], _ :: _, _, _, f, _ => f.elim
  | _ :: _, [], _, _, f, _ => f.elim
theorem Fgt.len : ∀ {S T : List Slot}, Fgt S T → S.length = T.length
  | [], [], _ => rfl
  | s :: S, t :: T, f => congrArg (· + 1) (Fgt.len f.2)
  | [], _ :: _, f => f.elim
  | _ :: _, [], f => f.elim
theorem Fgt.sub : ∀ {S T : List Slot}, Fgt S T → (T.flatMap Slot.fp).Sublist (S.flatMap Slot.fp)
  | [], [], _ => .refl _
  | s :: S, t :: T, f => by
    rw [List.flatMap_cons, List.flatMap_cons]
    refine List.Sublist.append ?_ (Fgt.sub f.2)
    rcases f.1 with e | e <;> subst e
    · exact .refl _
    · exact List.nil_sublist _
  | [], _ :: _, f => f.elim
  | _ :: _, [], f => f.elim
theorem StR.fgt {K : PySem.W.Frag} {g : Cl} {Fr H0 H : Hp} {σ : L2.St} {S T : List Slot} (st : StR K g Fr H0 H σ S) (f : Fgt S T) : StR K g Fr H0 H σ T := by
  refine ⟨st.ex, st.fr, st.dis, by rw [st.len, f.len], fun i t h => ?_, st.nd.sublist f.sub, fun a ha => st.free a (f.sub.subset ha)⟩
  obtain ⟨s, hs, e⟩ := f.at h
  rcases e with e | e <;> subst e
  · exact st.sl i _ hs
  · trivial
section
variable {X : Cx} {g : Cl} {Fr : Hp} {S T : List Slot} {D : DE} {pos : Pos}
theorem sw_fgt {sts : List Stmt} (f : Fgt S T) (h : SW X g Fr sts T D) : SW X g Fr sts S D := fun σ H0 H st => h σ H0 H (st.fgt f)
theorem gw_fgt {tg : Expr} {d : Dt} {P : List Slot → Prop} (f : Fgt S T) (h : GW X g Fr tg d T P) : GW X g Fr tg d S P := fun σ H0 H v st r => h σ H0 H v (st.fgt f) r
def DE.fg (D : DE) : DE := { D with nx := fun S => ∃ T, Fgt S T ∧ D.nx T }
theorem s1_fgt {st : Stmt} (h : S1 X g Fr st S D.fg) : S1 X g Fr st S D := fun σ H0 H s0 => semS_mono (h σ H0 H s0) ⟨fun σ' H' ⟨S', H0', e, st', T, f, q⟩ => ⟨T, H0', e, st'.fgt f, q⟩, fun _ _ q => q, fun _ _ q => q, fun _ _ q => q⟩
/-- for tg in iter, what a turn leaves is forgotten as wanted -/
theorem s_forF {tg iter : Expr} {body : List Stmt} (hc : X.calm = true) (h : IW X g Fr tg iter S fun xs S1 => ∃ Qv : Nat → List Slot → Prop, (∃ T, Fgt S1 T ∧ Qv 0 T) ∧
      (∀ i x T, xs[i]? = some x → Qv i T → GW X g Fr tg x T fun S2 => SW X g Fr body S2 { nx := fun S3 => ∃ T, Fgt S3 T ∧ Qv (i + 1) T, rt := D.rt, bk := fun S3 => ∃ T, Fgt S3 T ∧ D.nx T, ct := fun S3 => ∃ T, Fgt S3 T ∧ Qv (i + 1) T }) ∧ ∀ T, Qv xs.length T → D.nx T)
    (hp : PassesOwn (model X.prog X.w) X.A X.env X.xe := by exact PassesOwn.never) (hs : ∀ x, foldedSetIterable iter X.env x = pure x := by intro _; rfl) : S1 X g Fr (.For tg iter body [] pos) S D := by
  refine s1_fgt <| s_for hc (fun σ H0 H st => isem_mono (h σ H0 H st) fun J H1 ⟨xs, S1, H01, e1, st1, w, Qv, p0, turn, out⟩ => ⟨xs, S1, H01, e1, st1, w, fun i S => ∃ T, Fgt S T ∧ Qv i T, p0, fun i x S' hx ⟨T, f, q⟩ => gw_fgt f (turn i x T hx q), fun S' ⟨T, f, q⟩ => ⟨T, f, out T q⟩⟩) hp hs
end
/-- what a law promises -/
def F_law : FM := fun ss R => ∃ ns, ss = [.im (.scr ns)] ∧ ns.length ≤ 63 ∧ R (.im (.bl true))
def spLaw (K : PySem.W.Frag) : Sp := fun vs H Q _ => ∃ (a : Addr) (ns : List Int), vs = [.ref a] ∧ SqL K H a (ns.map V.int) ∧ ns.length ≤ 63 ∧ ∀ H', Q (.bl true) H'
theorem law_imp {P : Program} {w : World} {K : PySem.W.Frag} {mg : Str → Option Value} {base : Heap} {g : Cl} {k : Nat} {f : Addr} {fd : FuncData} {ps : List Str} (F : FnOk P w K mg base CX0 k f fd ps (spS K g F_law)) : FnOk P w K mg base CX0 k f fd ps (spLaw K) := by
  refine F.imp fun vs H Q E ⟨a, ns, e, hS, hl, k⟩ => ?_
  subst e
  refine ⟨fun _ => none, H, [.im (.scr ns)], ⟨fun _ _ h => h, nofun, nofun, rfl, fun i s h => ?_, by simp [Slot.fp], fun a ha => by simp [Slot.fp] at ha⟩, ns, rfl, hl, fun v H0' H' ex st => ?_⟩
  · match i, h with
    | 0, h => cases h; exact ⟨.ref a, rfl, .scr hS⟩
    | n + 1, h => simp at h
  · have := StR.last (σ := [some (V.ref a)]) (S := [.im (.scr ns)]) st
    cases this
    exact k H'
theorem cald_mk {P : Program} {w : World} {K : PySem.W.Frag} {mg : Str → Option Value} {base : Heap} {g : Cl} {f : Addr} {fd : FuncData} {ps : List Str} {k : Nat} {F : FM} (hm : Mono F) (h : StX.CallO K g.shop f) (hb : Binds K fd ps []) (ok : FnOk P w K mg base CX0 k f fd ps (spS K g F)) : CalD P w K mg base g k F :=
  ⟨hm, f, h, (ok.raw hb .nil).imp fun vs H Q E q => by rw [List.append_nil]; exact q⟩
theorem bind_mk {P : Program} {w : World} {K : PySem.W.Frag} {mg : Str → Option Value} {base : Heap} {g : Cl} {x : Str} {f : Addr} {fd : FuncData} {ps : List Str} {k : Nat} {F : FM} (hm : Mono F) (first : PySem.W.selfFirst K g.shop = true) (a : PySem.W.findIn K (.ref g.shop) x = some (some (.ref f))) (i : PySem.W.isFn K (.ref f) = true) (hb : Binds K fd ps []) (ok : FnOk P w K mg base CX0 k f fd ps (spS K g F)) : BinD P w K mg base g k x F :=
  ⟨hm, first, f, a, i, (ok.raw hb .nil).imp fun vs H Q E q => by rw [List.append_nil]; exact q⟩
/-- the end of every law: its walk from its promise -/
theorem walk {l : PySem.W.OpenLaw} {q : Program} {loose : List Str} {XP : (Str → Option Value) → Heap → Prop} {YP : World → Heap → Prop} {d : DefRec} {K : Params → PySem.W.Frag} (k : Nat) (hn : l.most = some 63) (hdf : d.params.defaults = []) (hr : Room k callerA)
    (hY : ∀ (w : World) (h : Heap), YP w h → (K w.params).In h)
    (F : ∀ (w : World) (mg : Str → Option Value) (fa : Addr) (h : Heap), (K w.params).In h → h.Ns mainGlobals mg → mg d.name = some (.ref fa) →
      ∃ fd : FuncData, (∀ (s : Shared) (u : Value), BindsTo s fd ⟨[u], []⟩ [("script", u)]) ∧ ∀ base : Heap, (K w.params).In base → base.Ns mainGlobals mg → FnOk l.prog w (K w.params) mg base CX0 k fa fd ["script"] (spLaw (K w.params))) :
    PySem.W.WalkO q loose XP YP l.row.toRowW d [] (fun f vs => PySem.call f vs) :=
  L2.walk_of (n := 63) (k := k) (x := "script") (CX := fun _ => CX0) (sp := fun w => spLaw (K w.params)) hn (by decide) hdf hr hY F (fun _ _ a ns hl _ hS => ⟨a, ns, rfl, hS, hl, fun _ => rfl⟩) fun _ _ _ _ _ z => z
end DL

set_option Elab.async false
set_option linter.all false
set_option autoImplicit false
set_option maxRecDepth 100000
set_option maxHeartbeats 2000000
/-! The data layer, eleventh part: in, len of a price list. -/
namespace DL
open PySem PySem.Spec PyProof.Rows L2 PK
theorem hu65 {k : Nat} {A : Around} (hr : Room k A) : A.units + 65 < cLine := by have := hr.un; omega
def rInT (K : PySem.W.Frag) : R2 := fun x y H Q => ∃ d ds, Dp K H x d ∧ Dp K H y (.tuple ds) ∧ SeqAt.shaped d = true ∧ SeqAt.shaped (.tuple ds) = true ∧ Q (.bl (ds.any fun z => PyData.eqv z d)) H
theorem canT {ds : List PyData} (h : SeqAt.shaped (.tuple ds) = true) : PyData.canLayAll0 ds = true := SeqAt.canLay_of_shaped h
theorem room_inT {u : Nat} {d : PyData} {ds : List PyData} (sd : SeqAt.shaped d = true) (hu : u + 65 < cLine) : u + 1 + min (PyData.depthAll ds) d.depth < cLine := by
  have h : d.depth ≤ 64 := by
    unfold SeqAt.shaped at sd
    exact of_decide_eq_true (Bool.and_eq_true_iff.mp sd).2
  have := Nat.min_le_right (PyData.depthAll ds) d.depth
  omega
section
variable {X : Cx} {g : Cl} {Fr : Hp} {S : List Slot} {R : Dt → List Slot → Prop} {D : DE} {pos : Pos}
theorem op_inT (hu : X.A.units + 65 < cLine) : OpR X (compareOp .In) (rInT X.K) := by
  intro pins s σ H x y v u Q I rx ry h
  obtain ⟨d, ds, hd, he, sd, se, q⟩ := h
  obtain ⟨as, r1⟩ := Dp.reads I d x v hd rx
  obtain ⟨bs, r2⟩ := Dp.reads I (.tuple ds) y u he ry
  exact SeqAt.in_tuple_reads r2 r1 (canT se) (SeqAt.canLay_of_shaped sd) (room_inT sd hu) ⟨.bl _, H, I, rfl, q⟩
theorem any_eqv {d : Dt} (hd : noBool d = true) : ∀ {ds : List Dt}, noBoolL ds = true → ((toPyL ds).any (fun z => PyData.eqv z (toPy d)) = true ↔ d ∈ ds)
  | [], _ => by simp [toPyL]
  | x :: r, h => by
    simp only [noBoolL, Bool.and_eq_true] at h
    have ih := any_eqv hd h.2
    have h1 := eqv_iff x d h.1 hd
    simp only [toPyL, List.any_cons, Bool.or_eq_true, List.mem_cons, ih, h1]
    constructor
    · rintro (e | e)
      · exact .inl e.symm
      · exact .inr e
    · rintro (e | e)
      · exact .inl e.symm
      · exact .inr e
/-- d in a tuple of data -/
theorem ow_inT {d : Dt} {ds : List Dt} (hu : X.A.units + 65 < cLine) (h1 : EqOk d) (h2 : EqOk (.tup ds)) (h : ∀ k : Bool, (k = true ↔ d ∈ ds) → R (.bl k) S) : OpW X g Fr (compareOp .In) d (.tup ds) S R := ow_of (op_inT hu) fun σ H0 H v1 v2 st r1 r2 =>
  ⟨toPy d, toPyL ds, rep_dp (noBool_plain _ h1.nb) (r1.mono st.ex), rep_dp (d := .tup ds) (noBool_plain _ h2.nb) (r2.mono st.ex), shaped_of (noBool_plain _ h1.nb) h1.dp, shaped_of (d := .tup ds) (noBool_plain _ h2.nb) h2.dp, done st (.bl _) (h _ (any_eqv h1.nb (by have := h2.nb; simpa [noBool] using this)))⟩
/-- d in a price list -/
theorem ow_inS {d : Dt} {ps : List Pack} {k : Nat} {F : FM} (G : BinD X.prog X.w X.K X.mg X.base g k "__contains__" F) (hr : Room k X.A) (h : F [.im (.shop ps), .im d] fun r => ∃ b, r = .im (.bl b) ∧ R (.bl b) S) : OpW X g Fr (compareOp .In) d (.shop ps) S R := by
  obtain ⟨f, hf, hfn, Gf⟩ := G.ex
  intro σ H0 H v1 v2 st r1 r2 pins s σ' u1 u2 I ra rb
  obtain ⟨b, dy, gs, rfl, hb⟩ := shop_at r2
  cases (show u2 = Value.ref b from rb)
  obtain ⟨mB, J', _⟩ := ins_get I.hok (st.ex _ _ hb)
  obtain ⟨od', J', _⟩ := J'.look
  obtain ⟨m, hF⟩ := I.fr
  have hp := call_post (T := fun r S2 => ∃ b, r = .im (.bl b) ∧ R (.bl b) S2) G.mono st (.im r2 (.im r1 .nil)) (by simp [Slot.fp]) h
  refine PySem.W.in_K hF I.ok.mod.kin J' hf hfn ?_
  refine wpAny_mono (wpAny_call (run_fnR (us := [.ref b, u1]) (vs := [.ref b, v1]) Gf hr pass0 I (.cons rfl (.cons ra .nil)) hp)) (fun w s' z => ?_) fun _ _ x => x
  obtain ⟨z', H', I', rz, r, S3, H05, e5, st5, b, er, q5⟩ := z
  subst er
  have rl := st5.last
  cases rl
  cases (show w = Value.bool b from rz)
  exact wpAny_truthy_bool ⟨.bl b, H', I', rfl, .bl b, S3, H05, e5, st5.unsnoc, .bl b, q5⟩
/-- len of a price list -/
theorem cw_lenP {ps : List Pack} {k : Nat} {F : FM} (G : BinD X.prog X.w X.K X.mg X.base g k "__len__" F) (hr : Room (k + 1) X.A) (h : F [.im (.shop ps)] fun r => ∃ n : Int, r = .im (.int n) ∧ 0 ≤ n ∧ n < 2 ^ 63 ∧ R (.int n) S) : CW X g Fr (.builtin "len") [.im (.shop ps)] S R := by
  obtain ⟨f, hf, hfn, Gf⟩ := G.ex
  intro σ H0 H vs st ra pins s σ' us I rs
  obtain ⟨v, rfl, r1⟩ := arg1 ra
  obtain ⟨a, dx, fs, rfl, ha⟩ := shop_at r1
  obtain ⟨u, rfl, ru⟩ := rs.one
  cases (show u = Value.ref a from ru)
  obtain ⟨mA, J, _⟩ := ins_get I.hok (st.ex _ _ ha)
  obtain ⟨od, J, _⟩ := J.look
  obtain ⟨m, hF⟩ := I.fr
  have hp := call_post (T := fun r S2 => ∃ n : Int, r = .im (.int n) ∧ 0 ≤ n ∧ n < 2 ^ 63 ∧ R (.int n) S2) G.mono st (.im r1 .nil) (by simp [Slot.fp]) h
  refine PySem.W.len_K hF I.ok.mod.kin J hf hfn ?_
  refine wpAny_mono (wpAny_call (SlX.run_at (us := [.ref a]) (ws := [.ref a]) Gf hr.in1 I.env0.in1 pass0 I (.cons rfl .nil) hp)) (fun w s' z => ?_) fun _ _ x => x
  obtain ⟨z', H', I', rz, r, S3, H05, e5, st5, n, er, n0, n1, q5⟩ := z
  subst er
  have rl := st5.last
  cases rl
  obtain ⟨t, e⟩ := (show ∃ t, w = Value.int n t from rz)
  subst e
  exact ⟨⟨n0, n1⟩, .int n, H', I'.tok _, ⟨_, rfl⟩, .int n, S3, H05, e5, st5.unsnoc, .int n, q5⟩
end
end DL

set_option Elab.async false
set_option linter.all false
set_option autoImplicit false
set_option maxRecDepth 100000
set_option maxHeartbeats 2000000
/-! The data layer, twelfth part: expressions and tests told by their value. -/
namespace DL
open PySem PySem.Spec PyProof.Rows L2 PK
section
variable {X : Cx} {g : Cl} {Fr : Hp} {S : List Slot} {R P : Dt → List Slot → Prop} {T U : Bool → List Slot → Prop} {D : DE} {pos : Pos}
theorem ew_mono {e : Expr} (h : EW X g Fr e S P) (k : ∀ d S1, P d S1 → R d S1) : EW X g Fr e S R := fun σ H0 H st => sem_mono (h σ H0 H st) fun v H' ⟨d, S', H0', e1, s1, r, q⟩ => ⟨d, S', H0', e1, s1, r, k _ _ q⟩
theorem tw_mono {e : Expr} (h : TW X g Fr e S T) (k : ∀ d S1, T d S1 → U d S1) : TW X g Fr e S U := fun σ H0 H st => semT_mono (h σ H0 H st) fun v H' ⟨S', H0', e1, s1, q⟩ => ⟨S', H0', e1, s1, k _ _ q⟩
theorem ew_pt (v : Dt) {e : Expr} (h : EW X g Fr e S fun d S1 => d = v ∧ S1 = S) (q : R v S) : EW X g Fr e S R := ew_mono h fun d S1 ⟨a, b⟩ => by rw [a, b]; exact q
theorem tw_pt (v : Bool) {e : Expr} (h : TW X g Fr e S fun d S1 => d = v ∧ S1 = S) (q : T v S) : TW X g Fr e S T := tw_mono h fun d S1 ⟨a, b⟩ => by rw [a, b]; exact q
/-- a test that comes to false -/
theorem s_ifF {c : Expr} {a b : List Stmt} (h : TW X g Fr c S fun k S1 => k = false ∧ S1 = S) (q : SW X g Fr b S D) : S1 X g Fr (.If c a b pos) S D := s_if (tw_pt false h ⟨nofun, fun _ => q⟩)
theorem s_ifT {c : Expr} {a b : List Stmt} (h : TW X g Fr c S fun k S1 => k = true ∧ S1 = S) (q : SW X g Fr a S D) : S1 X g Fr (.If c a b pos) S D := s_if (tw_pt true h ⟨fun _ => q, nofun⟩)
end
end DL

set_option Elab.async false
set_option linter.all false
set_option autoImplicit false
set_option maxRecDepth 100000
set_option maxHeartbeats 2000000
/-! The data layer, thirteenth part: list(e) as an own list, insert. -/
namespace DL
open PySem PySem.Spec PyProof.Rows L2 PK
section
variable {X : Cx} {g : Cl} {Fr : Hp} {S : List Slot} {R : Dt → List Slot → Prop} {T : Slot → List Slot → Prop} {D : DE} {pos : Pos}
theorem ef_list {e : Expr} {p1 : Pos} (hm : X.mg "list" = none) (h : EW X g Fr e S fun d S1 => ∃ xs, itemsOf d = some xs ∧ ∀ p, T (.own p (.lst xs)) S1) (hg : Gl X "list" := by rfl)
    (he : starEach (e :: []) X.env = (false, eval e X.env) :: starEach [] X.env := by rfl) (hpl : (backTo pos (starEach [] X.env)).any (·.1) = false := by rfl) : EF X g Fr (.Call (.Name "list" p1) [e] [] pos) S T :=
  fun σ H0 H st => sem_of (pe_callTy call_list_of hg hm bt_list (pa_cons pe_sem pa_nil he) (by decide) (by decide) he hpl) (sem_mono (h σ H0 H st) fun v H1 ⟨d, S1, H01, e1, st1, r, xs, hx, q⟩ => by
    obtain ⟨a, ws, rfl, ha, l⟩ := items_rep r hx
    exact ⟨a, ws, rfl, ha.elim (fun z => .inl (sq_of (st1.ex _ _ z))) (fun z => .inr (st_of (st1.ex _ _ z))), fun p hp => (postF_lst st1 hp l (q p)).back e1⟩)
theorem RepL.ins {K : PySem.W.Frag} {H : Hp} {v : V} {d : Dt} (r : Rep K g H v d) {vs : List V} {ds : List Dt} (l : RepL K g H vs ds) (n : Nat) : RepL K g H (vs.take n ++ [v] ++ vs.drop n) (ds.take n ++ [d] ++ ds.drop n) :=
  ((l.take n).append (.cons r .nil)).append (l.drop n)
/-- xs.insert(i, e), the list the name's own -/
theorem s_ins (i : Nat) {x : Str} {e1 e2 : Expr} {p : Addr} {ds0 : List Dt} {xp apos cpos : Pos} (hS : S[i]? = some (.own p (.lst ds0))) (h : AW X g Fr [e1, e2] S fun ss S1 => ∃ k d ds, ss = [.im (.int k), .im d] ∧ S1[i]? = some (.own p (.lst ds)) ∧ 0 ≤ k ∧ k < 2 ^ 62 ∧ ds.length < 100000 ∧ D.nx (S1.set i (.own p (.lst (ds.take k.toNat ++ [d] ++ ds.drop k.toNat)))))
    (hN : X.N[i]? = some x := by rfl) (hv : Vis X.env.scope x := by first | exact Or.inl rfl | exact Or.inr (Or.inl rfl) | exact Or.inr (Or.inr rfl)) (hd : (x == ("__debug__" : Str)) = false := by decide) (hcd : (x == ("__classdict__" : Str)) = false := by decide)
    (hs : swapsWith (.Call (.Attribute (.Name x xp) "insert" apos) [e1, e2] [] cpos) none pos.line X.env = pure false := by rfl)
    (hbase : attributeBase (.Name x xp) "insert" X.env (eval (.Name x xp) X.env) = eval (.Name x xp) X.env := by rfl)
    (hfew : ((backTo cpos (starEach (e1 :: [e2]) X.env)).all (fun x => !x.1) && (backToKw cpos (keywordEach [] X.env)).all (fun x => x.1.isSome) && decide ((e1 :: [e2]).length + ([] : List Keyword).length + (if ([] : List Keyword).isEmpty then 0 else 1) < 30)) = true := by rfl)
    (hline : (apos.endLine == cpos.line) = true := by rfl) (hs1 : starEach (e1 :: [e2]) X.env = (false, eval e1 X.env) :: starEach [e2] X.env := by rfl) (hplain : (backTo cpos (starEach [e2] X.env)).any (·.1) = false := by rfl) :
    S1 X g Fr (.Expr (.Call (.Attribute (.Name x xp) "insert" apos) [e1, e2] [] cpos) pos) S D :=
  fun σ H0 H st => semS_of (ps_expr (pe_bm PySem.F.plainAttrs_list PySem.F.slot_list_insert PySem.F.type_list_insert mt_insert (pe_var hN hv hd hcd) pa_sem hbase hfew hline hs1 hplain) hs) (by
    obtain ⟨e0, _⟩ := st.own_at hS
    refine ⟨.ref p, e0, ?_, ?_⟩
    · obtain ⟨_, vs, h1, _⟩ := st.own_at hS; exact .inl ⟨rfl, vs, sq_of h1⟩
    · refine semA_mono (h σ H0 H st) fun vs' H1 ⟨ss, S1, H01, ex1, st1, ra, k, d, ds, ess, hS1, k0, k1, hl, q⟩ => ?_
      subst ess
      obtain ⟨v, w, rfl, r1, r2⟩ := arg2 ra
      cases r1
      obtain ⟨_, vs, h1, h2⟩ := st1.own_at hS1
      exact ⟨p, vs, k, w, rfl, rfl, h1, by rw [h2.length]; exact Nat.lt_of_lt_of_le hl (by decide), k0, by omega, _, H01, ex1, own_put st1 hS1 (h2.ins r2 k.toNat), q⟩)
theorem cut_head {xs : List Dt} (h : xs ≠ []) : DL.cutD xs none (some 1) = xs.take 1 := by
  cases xs with
  | nil => exact absurd rfl h
  | cons x r =>
    have h1 : HT.sIx (x :: r).length 0 none = 0 := rfl
    have h2 : HT.sIx (x :: r).length (x :: r).length (some 1) = 1 := by unfold HT.sIx; simp
    unfold DL.cutD
    rw [h1, h2]; rfl
end
end DL

set_option Elab.async false
set_option linter.all false
set_option autoImplicit false
set_option maxRecDepth 100000
set_option maxHeartbeats 2000000
/-! The data layer, fourteenth part: sum of a tuple, statements that leave all as it was. -/
namespace DL
open PySem PySem.Spec PyProof.Rows L2 PK
section
variable {X : Cx} {g : Cl} {Fr : Hp} {S : List Slot} {R : Dt → List Slot → Prop} {D : DE} {pos : Pos}
def rSumT (K : PySem.W.Frag) : List V → Hp → VK → Prop := fun vs H Q => ∃ (a : Addr) (ns : List Int), vs = [V.ref a] ∧ SqT K H a (ns.map V.int) ∧ Q (.int ns.sum) H
theorem cr_sumT (hc : X.calm = true) : CallR X (.builtin "sum") (rSumT X.K) := by
  intro pins s σ H vs us Q I r h
  obtain ⟨a, ns, rfl, hs, q⟩ := h
  obtain ⟨its, rv, ht, _⟩ := I.tuple hs
  rw [Vals.ref1 r]
  obtain ⟨xs, e⟩ := rv.ints.allInts.items
  have hn : numsOf (intItems xs).toList = ns := by rw [← e]; exact rv.ints.numsOf
  rw [nums_intItems] at hn
  rw [e] at ht
  refine PySem.W.ktm_sumG (I.ok.hd hc) ht fun h' tk t' hk => ?_
  have hs : preSum (numAt xs) xs.size = ns.sum := by rw [preSum_eq, List.take_of_length_le (by simp), hn]
  rw [hs]
  exact ⟨.int _, H, I.kept hk, ⟨_, rfl⟩, q⟩
theorem cw_sumT {ns : List Int} (hc : X.calm = true) (h : R (.int ns.sum) S) : CW X g Fr (.builtin "sum") [.im (.tup (ns.map Dt.int))] S R := cw_of (cr_sumT hc) fun σ H0 H vs st ra => by
  obtain ⟨v, rfl, r⟩ := arg1 ra
  cases r with
  | tup e l =>
    have := l.ints
    subst this
    exact ⟨_, ns, rfl, st_of (st.ex _ _ e), done st (.int _) h⟩
/-- a statement that leaves all as it was -/
theorem s_pt {st : Stmt} (h : S1 X g Fr st S { nx := fun S1 => S1 = S, rt := fun _ _ => False }) (q : D.nx S) : S1 X g Fr st S D := fun σ H0 H s0 => semS_mono (h σ H0 H s0)
  ⟨fun σ' H' ⟨S', H0', e, st', eq⟩ => ⟨S', H0', e, st', by rw [show S' = S from eq]; exact q⟩, fun _ _ ⟨_, _, _, _, _, _, q⟩ => q.elim, fun _ _ ⟨_, _, _, _, q⟩ => q.elim, fun _ _ ⟨_, _, _, _, q⟩ => q.elim⟩
end
end DL

set_option Elab.async false
set_option linter.all false
set_option autoImplicit false
set_option maxRecDepth 100000
set_option maxHeartbeats 2000000
/-! The data layer, fifteenth part: ranges downward, items stored, lists repeated, forgetting behind a statement. -/
namespace DL
open PySem PySem.Spec PyProof.Rows L2 PK
section
variable {X : Cx} {g : Cl} {Fr : Hp} {S : List Slot} {R : Dt → List Slot → Prop} {T : Slot → List Slot → Prop} {D : DE} {pos : Pos} {tg : Expr} {P : List Dt → List Slot → Prop}
/-- a statement behind which some slots are forgotten -/
theorem s_fgtTo {st : Stmt} (T0 : List Slot) (h : S1 X g Fr st S { nx := fun S1 => Fgt S1 T0, rt := fun _ _ => False }) (q : D.nx T0) : S1 X g Fr st S D := fun σ H0 H s0 => semS_mono (h σ H0 H s0)
  ⟨fun σ' H' ⟨S', H0', e, st', f⟩ => ⟨T0, H0', e, st'.fgt f, q⟩, fun _ _ ⟨_, _, _, _, _, _, q⟩ => q.elim, fun _ _ ⟨_, _, _, _, q⟩ => q.elim, fun _ _ ⟨_, _, _, _, q⟩ => q.elim⟩
def downD (i : Int) (n : Nat) : List Dt := (List.range n).map fun k : Nat => Dt.int (i - (k : Int))
theorem downD_get {i : Int} {n k : Nat} (h : k < n) : (downD i n)[k]? = some (.int (i - (k : Int))) := by
  unfold downD
  rw [List.getElem?_map, List.getElem?_range h]; rfl
theorem downD_len {i : Int} {n : Nat} : (downD i n).length = n := by simp [downD]
theorem walks_d {K : PySem.W.Frag} {H0 : Hp} {i : Int} {n : Nat} : Walks K g (Itc i (-1) n) H0 (downD i n) :=
  ⟨fun k H e hi => by rw [downD_len] at hi; exact hi, fun k H e hi => by rw [downD_len] at hi; exact hi, fun k H x H' e hi y => by
    obtain ⟨y1, y2⟩ := y
    subst y2
    rw [downD_len] at hi
    refine ⟨_, downD_get hi, .inl ⟨y1, ?_⟩⟩
    have e2 : i + (k : Int) * -1 = i - (k : Int) := by omega
    rw [e2]; exact .int _⟩
/-- range(i, j, -1) -/
theorem iw_r3 {a b c : Expr} {p : Pos} (hm : X.mg "range" = none) (h : AW X g Fr [a, b, c] S fun ss S1 => ∃ i j : Int, ss = [.im (.int i), .im (.int j), .im (.int (-1))] ∧ (-(2 ^ 62) ≤ i ∧ i < 2 ^ 62 ∧ -(2 ^ 62) ≤ j ∧ j < 2 ^ 62) ∧ P (downD i (i - j).toNat) S1) (hg : Gl X "range" := by rfl)
    (hs : starEach [a, b, c] X.env = (false, eval a X.env) :: starEach [b, c] X.env := by rfl) (hpl : (backTo pos (starEach [b, c] X.env)).any (·.1) = false := by rfl) : IW X g Fr tg (.Call (.Name "range" p) [a, b, c] [] pos) S P :=
  fun σ H0 H st => isem_of (pi_range3 hg hm pa_sem hs hpl) (semA_mono (h σ H0 H st) fun vs H1 ⟨ss, S1, H01, e1, st1, ra, i, j, es, ⟨b1, b2, b3, b4⟩, q⟩ => by
    subst es
    obtain ⟨v, w, u, rfl, r1, r2, r3⟩ := arg3 ra
    cases r1; cases r2; cases r3
    exact ⟨i, j, -1, _, rfl, RgC.neg b1 b2 b3 b4, _, S1, H01, e1, st1, walks_d, q⟩)
/-- xs[k] = e, the list the name's own -/
theorem s_put (i : Nat) {x : Str} {p : Addr} {o0 : OD} {e ie : Expr} {xp tp : Pos} (hS : S[i]? = some (.own p o0)) (h : EW X g Fr e S fun d S1 => S1[i]? = some (.own p o0) ∧ EW X g Fr ie S1 fun d2 S2 => ∃ (ds : List Dt) (k : Int), d2 = .int k ∧ S2[i]? = some (.own p (.lst ds)) ∧ 0 ≤ k ∧ k < ds.length ∧ D.nx (S2.set i (.own p (.lst (ds.set k.toNat d)))))
    (hN : X.N[i]? = some x := by rfl) (hv : Vis X.env.scope x := by first | exact Or.inl rfl | exact Or.inr (Or.inl rfl) | exact Or.inr (Or.inr rfl)) (hd : (x == ("__debug__" : Str)) = false := by decide) (hcd : (x == ("__classdict__" : Str)) = false := by decide)
    (ha : ∀ v, assign (.Subscript (.Name x xp) ie tp) X.env v = (do
      let ov ← holding [v] (eval (.Name x xp) X.env)
      let iv ← holding [v, ov] (eval ie X.env)
      standAt tp
      holding [v, ov, iv] (setItem ov iv v)
      release [v, ov, iv] []) := by intro _; rfl)
    (hs : swapsWithSole [.Subscript (.Name x xp) ie tp] e pos.line X.env = pure false := by rfl) (hw : swappedStores [.Subscript (.Name x xp) ie tp] e X.env = pure none := by rfl) (h1 : (assignEach [.Subscript (.Name x xp) ie tp] X.env).map (·.2) = [assign (.Subscript (.Name x xp) ie tp) X.env] := by rfl) :
    S1 X g Fr (.Assign [.Subscript (.Name x xp) ie tp] e pos) S D :=
  fun σ H0 H st => semS_of (ps_asg pe_sem (pg_sub (pe_var hN hv hd hcd) pe_sem set_list ha) hs hw h1) (sem_mono (h σ H0 H st) fun v H1 ⟨d, S1, H01, e1, st1, r, hS1, q⟩ => by
    refine ⟨.ref p, (st1.own_at hS1).1, sem_mono (q σ H01 H1 st1) fun v2 H2 ⟨d2, S2, H02, e2, st2, r2, ds, k, ek, hS2, k0, k1, nx⟩ => ?_⟩
    subst ek
    cases r2
    obtain ⟨_, vs, h1, h2⟩ := st2.own_at hS2
    have hi : ixN vs.length k = some k.toNat := by unfold ixN; rw [if_pos k0, h2.length, if_pos k1]
    exact ⟨p, vs, k, k.toNat, rfl, rfl, h1, hi, _, H02, e1.trans e2, own_put st2 hS2 (h2.set (r.mono e2) k.toNat), nx⟩)
theorem ef_bin {a b : Expr} {op : Operator} (h : EW X g Fr a S fun d1 S1 => EW X g Fr b S1 fun d2 S2 => ∀ σ H0 H v1 v2, StR X.K g Fr H0 H σ S2 → Rep X.K g H0 v1 d1 → Rep X.K g H0 v2 d2 → rSem X (binaryOp op) v1 v2 H (PostF X.K g Fr σ H0 T)) : EF X g Fr (.BinOp a op b pos) S T :=
  fun σ H0 H st => sem_of (pe_op op_sem pe_sem pe_sem) (sem_mono (h σ H0 H st) fun v1 H1 ⟨d1, S1, H01, e1, st1, r1, h1⟩ => sem_mono (h1 σ H01 H1 st1) fun v2 H2 ⟨d2, S2, H02, e2, st2, r2, h2⟩ =>
    rsem_mono (h2 σ H02 H2 v1 v2 st2 (r1.mono e2) r2) fun v H' q => q.back (e1.trans e2))
/-- [x] * n as an own list -/
theorem ef_rep {a b : Expr} (h : EW X g Fr a S fun d1 S1 => EW X g Fr b S1 fun d2 S2 => ∃ xs i, d1 = .lst xs ∧ d2 = .int i ∧ -(2 ^ 63) ≤ i ∧ i < 2 ^ 63 ∧ xs.length * i.toNat ≤ 100000 ∧ ∀ p, T (.own p (.lst (List.replicate i.toNat xs).flatten)) S2) : EF X g Fr (.BinOp a .Mult b pos) S T :=
  ef_bin fun σ H0 H st => sem_mono (h σ H0 H st) fun v1 H1 ⟨d1, S1, H01, e1, st1, r1, h1⟩ => ⟨d1, S1, H01, e1, st1, r1, fun σ H0 H st => sem_mono (h1 σ H0 H st) fun v2 H2 ⟨d2, S2, H02, e2, st2, r2, xs, i, ed, ed2, b1, b2, b3, q⟩ => ⟨d2, S2, H02, e2, st2, r2, fun σ' H0' H' w1 w2 st' q1 q2 => by
    subst ed ed2
    cases q2
    cases q1 with
    | lst e l =>
      refine rsem_of op_rep ⟨_, _, _, rfl, rfl, st'.ex _ _ e, b1, b2, ?_, fun p hp => ?_⟩
      · rw [l.length]; exact Nat.le_trans b3 (by decide)
      · exact postF_lst st' hp (l.rep _) (q p)⟩⟩
end
end DL

set_option Elab.async false
set_option linter.all false
set_option autoImplicit false
set_option maxRecDepth 100000
set_option maxHeartbeats 2000000
/-! The data layer, sixteenth part: the least and the greatest of a list of data; a tuple repeated any number of times. -/
namespace DL
open PySem PySem.Spec PyProof.Rows L2 PK
/-- x < y, of alike data -/
def ltD (x y : Dt) : Bool := PySem.W.dataLt (toPy x) (toPy y)
theorem ltD_irr (x : Dt) : ltD x x = false := lex_irrefl (O := itemOrd) _
theorem ltD_trans {x y z : Dt} (h : ltD x y = true) (k : ltD y z = true) : ltD x z = true := lex_trans (O := itemOrd) _ _ _ h k
theorem ltD_int (i j : Int) : ltD (.int i) (.int j) = decide (i < j) := PySem.W.dataLt_int i j
theorem ltD_pair (a b c d : Int) : ltD (.tup [.int a, .int b]) (.tup [.int c, .int d]) = (decide (a < c) || (decide (a = c) && decide (b < d))) := by
  show PySem.W.dataLt (.tuple [.int a, .int b]) (.tuple [.int c, .int d]) = _
  rw [PySem.W.dataLt_tuple]
  by_cases e : a = c
  · subst e
    rw [PySem.W.dataLt_all_yes (by simp [PySem.W.alike]) (by simp [PyData.eqv])]
    by_cases e2 : b = d
    · subst e2
      rw [PySem.W.dataLt_all_yes (by simp [PySem.W.alike]) (by simp [PyData.eqv])]
      simp [lex_irrefl (O := itemOrd)]
    · rw [PySem.W.dataLt_all_no (by simp [PySem.W.alike]) (by simp [PyData.eqv, e2]), PySem.W.dataLt_int]
      simp
  · rw [PySem.W.dataLt_all_no (by simp [PySem.W.alike]) (by simp [PyData.eqv, e]), PySem.W.dataLt_int]
    simp [e]
theorem fold_mem {α : Type} (f : α → α → Bool) : ∀ (l : List α) (a : α), l.foldl (fun a y => if f y a then y else a) a ∈ a :: l
  | [], a => by simp
  | y :: r, a => by
    have := fold_mem f r (if f y a then y else a)
    rw [List.foldl_cons]
    rcases List.mem_cons.mp this with e | e
    · rw [e]; split <;> simp
    · exact List.mem_cons_of_mem _ (List.mem_cons_of_mem _ e)
theorem fold_best {α : Type} (f : α → α → Bool) (irr : ∀ x, f x x = false) (tr : ∀ x y z, f x y = true → f y z = true → f x z = true) : ∀ (l : List α) (a : α) (done : List α), (∀ z ∈ a :: done, f z a = false) → ∀ z ∈ a :: done ++ l, f z (l.foldl (fun a y => if f y a then y else a) a) = false
  | [], a, dn, h, z, hz => h z (by simpa using hz)
  | y :: r, a, dn, h, z, hz => by
    rw [List.foldl_cons]
    by_cases c : f y a = true
    · rw [if_pos c]
      refine fold_best f irr tr r y (a :: dn) (fun x hx => ?_) z (by
        simp only [List.mem_append, List.mem_cons] at hz ⊢
        rcases hz with (e | e) | (e | e)
        · exact .inl (.inr (.inl e))
        · exact .inl (.inr (.inr e))
        · exact .inl (.inl e)
        · exact .inr e)
      rcases List.mem_cons.mp hx with e | e
      · rw [e]; exact irr y
      · cases c2 : f x y with
        | false => rfl
        | true =>
          have := h x e
          rw [tr x y a c2 c] at this
          cases this
    · rw [if_neg c]
      refine fold_best f irr tr r a (y :: dn) (fun x hx => ?_) z (by
        simp only [List.mem_append, List.mem_cons] at hz ⊢
        rcases hz with (e | e) | (e | e)
        · exact .inl (.inl e)
        · exact .inl (.inr (.inr e))
        · exact .inl (.inr (.inl e))
        · exact .inr e)
      rcases List.mem_cons.mp hx with e | e
      · rw [e]; exact h a List.mem_cons_self
      · rcases List.mem_cons.mp e with e | e
        · rw [e]; exact Bool.eq_false_iff.mpr c
        · exact h x (List.mem_cons_of_mem _ e)
/-- the greatest, the least: the first such -/
def bestP (b : Bool) : List PyData → PyData
  | [] => .none
  | x :: r => if b then PySem.W.maxD x r else PySem.W.minD x r
def rBest (b : Bool) (K : PySem.W.Frag) : List V → Hp → VK → Prop := fun vs H Q => ∃ (a : Addr) (xs : List V) (ds : List PyData), vs = [V.ref a] ∧ SqL K H a xs ∧ DpAll K H xs ds ∧ ds ≠ [] ∧ PySem.W.AlikeAll ds ∧ PyData.depthAll ds ≤ 60 ∧
  ∀ (i : Nat) (v : V), xs[i]? = some v → ds[i]? = some (bestP b ds) → Q v H
theorem bestP_mem {b : Bool} : ∀ {ds : List PyData}, ds ≠ [] → bestP b ds ∈ ds
  | [], h => absurd rfl h
  | x :: r, _ => by
    cases b with
    | true => exact fold_mem (fun y a => PySem.W.dataLt a y) r x
    | false => exact fold_mem (fun y a => PySem.W.dataLt y a) r x
theorem vals_back : ∀ {xs : List V} {us : List Value} {i : Nat} {u : Value}, Vals xs us → us[i]? = some u → ∃ x, xs[i]? = some x ∧ RelV x u := fun {xs us i u} r h => by
  have hi : i < xs.length := by rw [r.length]; exact (List.getElem?_eq_some_iff.mp h).1
  obtain ⟨u', h1, h2⟩ := r.get (List.getElem?_eq_getElem hi)
  rw [h] at h1
  cases h1
  exact ⟨_, List.getElem?_eq_getElem hi, h2⟩
section
variable {X : Cx} {g : Cl} {Fr : Hp} {S : List Slot} {R : Dt → List Slot → Prop} {D : DE} {pos : Pos}
theorem best_fin {pins : List (Addr × Obj)} {σ : L2.St} {H : Hp} {s : Shared} {xs : List V} {its : List Value} {ds : List PyData} {as bs : List Addr} {b : Bool} {i : Nat} {v : Value} {h' : Heap} {Q : VK} (I : Inv X pins σ H s) (rv : Vals xs its) (rA : ReadsAll s.heap its ds as) (hne : ds ≠ []) (al : PySem.W.AlikeAll ds)
    (q : ∀ (i : Nat) (v : V), xs[i]? = some v → ds[i]? = some (bestP b ds) → Q v H) (hi : its[i]? = some v) (r : Reads h' v (bestP b ds) bs) (hk : ∀ b o, s.heap.get? b = some o → h'.get? b = some o) : ∃ y, RelV y v ∧ Q y H := by
  obtain ⟨y, hy, ry⟩ := vals_back rv hi
  obtain ⟨cs, r3, hlt, hm, _⟩ := PySem.W.readsAll_at rA i v hi
  have e := PySem.W.alike_unique _ _ v _ _ (al.1 _ hm _ (bestP_mem hne)) (PySem.W.reads_keeps hk r3) r
  refine ⟨y, ry, q i y hy ?_⟩
  rw [← e, List.getD_eq_getElem?_getD, List.getElem?_eq_getElem hlt]; rfl
theorem cr_maxD (hc : X.calm = true) (hu : X.A.units + 64 < cLine) : CallR X (.builtin "max") (rBest true X.K) := by
  intro pins s σ H vs us Q I r h
  obtain ⟨a, xs, ds, rfl, hs, hd, hne, al, dp, q⟩ := h
  obtain ⟨its, rv, hl, _⟩ := I.list hs
  rw [Vals.ref1 r]
  obtain ⟨as, rA⟩ := Dp.readsAll I ds xs its hd rv
  cases ds with
  | nil => exact absurd rfl hne
  | cons x t =>
    refine PySem.W.max_list_data (I.ok.hd hc) hl.isList (by simpa using rA) al (by omega) fun i v h' tk bs hi rb hk => ?_
    obtain ⟨y, ry, q1⟩ := best_fin (b := true) I rv rA hne al q (by simpa using hi) rb hk
    exact ⟨y, H, I.kept hk, ry, q1⟩
theorem cr_minD (hc : X.calm = true) (hu : X.A.units + 64 < cLine) : CallR X (.builtin "min") (rBest false X.K) := by
  intro pins s σ H vs us Q I r h
  obtain ⟨a, xs, ds, rfl, hs, hd, hne, al, dp, q⟩ := h
  obtain ⟨its, rv, hl, _⟩ := I.list hs
  rw [Vals.ref1 r]
  obtain ⟨as, rA⟩ := Dp.readsAll I ds xs its hd rv
  cases ds with
  | nil => exact absurd rfl hne
  | cons x t =>
    refine PySem.W.min_list_data (I.ok.hd hc) hl.isList (by simpa using rA) al (by omega) fun i v h' tk bs hi rb hk => ?_
    obtain ⟨y, ry, q1⟩ := best_fin (b := false) I rv rA hne al q (by simpa using hi) rb hk
    exact ⟨y, H, I.kept hk, ry, q1⟩
theorem toPyL_at : ∀ {ds : List Dt} {i : Nat} {p : PyData}, (toPyL ds)[i]? = some p → ∃ d, ds[i]? = some d ∧ toPy d = p
  | [], i, p, h => by simp [toPyL] at h
  | d :: r, 0, p, h => by
    simp only [toPyL, List.getElem?_cons_zero, Option.some.injEq] at h
    exact ⟨d, rfl, h⟩
  | d :: r, i + 1, p, h => by
    simp only [toPyL, List.getElem?_cons_succ] at h
    obtain ⟨e, h1, h2⟩ := toPyL_at h
    exact ⟨e, by simpa using h1, h2⟩
theorem toPyL_mem {ds : List Dt} {p : PyData} (h : p ∈ toPyL ds) : ∃ d ∈ ds, toPy d = p := by
  obtain ⟨i, hi⟩ := List.getElem?_of_mem h
  obtain ⟨d, h1, h2⟩ := toPyL_at hi
  exact ⟨d, List.mem_of_getElem? h1, h2⟩
theorem mem_toPyL : ∀ {ds : List Dt} {d : Dt}, d ∈ ds → toPy d ∈ toPyL ds
  | x :: r, d, h => by
    rcases List.mem_cons.mp h with e | e
    · rw [e]; simp [toPyL]
    · simp only [toPyL]; exact List.mem_cons_of_mem _ (mem_toPyL e)
/-- data that can be compared with one another -/
structure AlkD (ds : List Dt) : Prop where
  al : ∀ x ∈ ds, ∀ y ∈ ds, PySem.W.alike (toPy x) (toPy y) = true
  nn : ∀ x ∈ ds, toPy x ≠ .none
  pl : plainL ds = true
  dp : depL ds ≤ 60
theorem AlkD.all {ds : List Dt} (h : AlkD ds) : PySem.W.AlikeAll (toPyL ds) := ⟨fun x hx y hy => by
  obtain ⟨d, h1, rfl⟩ := toPyL_mem hx
  obtain ⟨e, h2, rfl⟩ := toPyL_mem hy
  exact h.al d h1 e h2, fun x hx => by
  obtain ⟨d, h1, rfl⟩ := toPyL_mem hx
  exact h.nn d h1⟩
theorem best_go {b : Bool} {xs : List Dt} {σ : L2.St} {H0 H : Hp} {vs : List V} (hne : xs ≠ []) (al : AlkD xs) (h : ∀ d ∈ xs, (∀ e ∈ xs, (if b then ltD d e else ltD e d) = false) → R d S) (st : StR X.K g Fr H0 H σ S) (ra : ArgR X.K g H0 S vs [.im (.lst xs)]) : rBest b X.K vs H (PostE X.K g Fr σ H0 R) := by
  obtain ⟨v, rfl, r⟩ := arg1 ra
  cases r with
  | lst e l =>
    have hp : toPyL xs ≠ [] := by
      cases xs with
      | nil => exact absurd rfl hne
      | cons a t => simp [toPyL]
    refine ⟨_, _, toPyL xs, rfl, sq_of (st.ex _ _ e), repL_dp al.pl (l.mono st.ex), hp, al.all, by rw [depL_py]; exact al.dp, fun i w hi hb => ?_⟩
    obtain ⟨d, hd, rd⟩ := l.getV hi
    obtain ⟨d', hd', ed⟩ := toPyL_at hb
    rw [hd] at hd'
    cases hd'
    refine done st rd (h d (List.mem_of_getElem? hd) fun z hz => ?_)
    have hz' := mem_toPyL hz
    unfold ltD
    rw [ed]
    revert hz'
    generalize toPyL xs = ps at hp
    generalize toPy z = pz
    intro hz'
    cases ps with
    | nil => exact absurd rfl hp
    | cons x t =>
      cases b with
      | true => exact fold_best (fun y a => PySem.W.dataLt a y) (fun x => lex_irrefl (O := itemOrd) _) (fun x y z h k => lex_trans (O := itemOrd) _ _ _ k h) t x [] (by simp; exact lex_irrefl (O := itemOrd) _) pz (by simpa using hz')
      | false => exact fold_best (fun y a => PySem.W.dataLt y a) (fun x => lex_irrefl (O := itemOrd) _) (fun x y z h k => lex_trans (O := itemOrd) _ _ _ h k) t x [] (by simp; exact lex_irrefl (O := itemOrd) _) pz (by simpa using hz')
theorem cw_maxD {xs : List Dt} (hc : X.calm = true) (hu : X.A.units + 64 < cLine) (hne : xs ≠ []) (al : AlkD xs) (h : ∀ d ∈ xs, (∀ e ∈ xs, ltD d e = false) → R d S) : CW X g Fr (.builtin "max") [.im (.lst xs)] S R := cw_of (cr_maxD hc hu) fun σ H0 H vs st ra => best_go hne al h st ra
theorem cw_minD {xs : List Dt} (hc : X.calm = true) (hu : X.A.units + 64 < cLine) (hne : xs ≠ []) (al : AlkD xs) (h : ∀ d ∈ xs, (∀ e ∈ xs, ltD e d = false) → R d S) : CW X g Fr (.builtin "min") [.im (.lst xs)] S R := cw_of (cr_minD hc hu) fun σ H0 H vs st ra => best_go hne al h st ra
/-- rows (number, number) -/
def rowD (s : Int × Int) : Dt := .tup [.int s.1, .int s.2]
theorem alk_pairs (l : List (Int × Int)) : AlkD (l.map rowD) := by
  refine ⟨fun x hx y hy => ?_, fun x hx => ?_, ?_, Nat.le_trans (depL_map (f := rowD) (n := 1) (fun _ => Nat.le_refl _) l) (by decide)⟩
  · obtain ⟨a, _, rfl⟩ := List.mem_map.mp hx
    obtain ⟨b, _, rfl⟩ := List.mem_map.mp hy
    simp [rowD, toPy, toPyL, PySem.W.alike, PySem.W.alikeAll]
  · obtain ⟨a, _, rfl⟩ := List.mem_map.mp hx
    simp [rowD, toPy]
  · exact noBoolL_plain _ (noBoolL_map (fun _ => rfl) l)
theorem cw_maxP {l : List (Int × Int)} (hc : X.calm = true) (hu : X.A.units + 64 < cLine) (hne : l ≠ []) (h : ∀ m ∈ l, (∀ y ∈ l, y.1 < m.1 ∨ (y.1 = m.1 ∧ y.2 ≤ m.2)) → R (rowD m) S) : CW X g Fr (.builtin "max") [.im (.lst (l.map rowD))] S R := by
  refine cw_maxD hc hu (by simpa using hne) (alk_pairs l) fun d hd hx => ?_
  obtain ⟨m, hm, rfl⟩ := List.mem_map.mp hd
  refine h m hm fun y hy => ?_
  have := hx (rowD y) (List.mem_map_of_mem hy)
  rw [rowD, rowD, ltD_pair] at this
  simp only [Bool.or_eq_false_iff, Bool.and_eq_false_iff, decide_eq_false_iff_not] at this
  omega
theorem cw_minP {l : List (Int × Int)} (hc : X.calm = true) (hu : X.A.units + 64 < cLine) (hne : l ≠ []) (h : ∀ m ∈ l, (∀ y ∈ l, m.1 < y.1 ∨ (y.1 = m.1 ∧ m.2 ≤ y.2)) → R (rowD m) S) : CW X g Fr (.builtin "min") [.im (.lst (l.map rowD))] S R := by
  refine cw_minD hc hu (by simpa using hne) (alk_pairs l) fun d hd hx => ?_
  obtain ⟨m, hm, rfl⟩ := List.mem_map.mp hd
  refine h m hm fun y hy => ?_
  have := hx (rowD y) (List.mem_map_of_mem hy)
  rw [rowD, rowD, ltD_pair] at this
  simp only [Bool.or_eq_false_iff, Bool.and_eq_false_iff, decide_eq_false_iff_not] at this
  omega
end
end DL

set_option Elab.async false
set_option linter.all false
set_option autoImplicit false
set_option maxRecDepth 100000
set_option maxHeartbeats 2000000
/-! The data layer, seventeenth part: several names set at once, the last one to a new list. -/
namespace DL
open PySem PySem.Spec PyProof.Rows L2 PK
section
variable {X : Cx} {g : Cl} {Fr : Hp} {S : List Slot} {R : Dt → List Slot → Prop} {D : DE} {pos : Pos}
/-- a new empty list at p -/
structure NewL (Fr H0 H : Hp) (S : List Slot) (p : Addr) : Prop where
  at_ : H p = some (.lst [])
  h0 : H0 p = none
  fr : Fr p = none
  nf : p ∉ S.flatMap Slot.fp
def PostL (K : PySem.W.Frag) (g : Cl) (Fr : Hp) (σ : L2.St) (H0 : Hp) (R : List Slot → List Slot → Addr → Prop) : List V → Hp → Prop := fun vs H' => ∃ ss ws p S' H0', vs = ws ++ [.ref p] ∧ Ex H0 H0' ∧ StR K g Fr H0' H' σ S' ∧ ArgR K g H0' S' ws ss ∧ NewL Fr H0' H' S' p ∧ R ss S' p
def AL (X : Cx) (g : Cl) (Fr : Hp) (es : List Expr) (S : List Slot) (R : List Slot → List Slot → Addr → Prop) : Prop := ∀ σ H0 H, StR X.K g Fr H0 H σ S → tSemA X es σ H (PostL X.K g Fr σ H0 R)
theorem al_im {e : Expr} {es : List Expr} {A : List Slot → List Slot → Addr → Prop} (h : EW X g Fr e S fun d S1 => AL X g Fr es S1 fun ss S2 p => A (.im d :: ss) S2 p) (hs : starEach (e :: es) X.env = (false, eval e X.env) :: starEach es X.env := by rfl) : AL X g Fr (e :: es) S A :=
  fun σ H0 H st => semA_of (pa_cons pe_sem pa_sem hs) (sem_mono (h σ H0 H st) fun v1 H1 ⟨d1, S1, H01, e1, st1, r1, h1⟩ => semA_mono (h1 σ H01 H1 st1) fun vs H2 ⟨ss, ws, p, S2, H02, ev, e2, st2, r2, nw, h2⟩ =>
    ⟨.im d1 :: ss, v1 :: ws, p, S2, H02, by rw [ev]; rfl, e1.trans e2, st2, .im (r1.mono e2) r2, nw, h2⟩)
theorem al_new {A : List Slot → List Slot → Addr → Prop} {p1 : Pos} (h : ∀ p, A [] S p) (hs : starEach [.List [] p1] X.env = (false, eval (.List [] p1) X.env) :: starEach [] X.env := by rfl) : AL X g Fr [.List [] p1] S A :=
  fun σ H0 H st => semA_of (pa_cons (pe_lst pa_nil) pa_nil hs) (by
    refine ⟨Nat.zero_le _, fun p hp => ?_⟩
    have h0 : H0 p = none := st.ex.free hp
    exact ⟨[], [], p, S, H0, rfl, Ex.refl _, st.grow (Ex.new hp), .nil, ⟨upd_same, h0, st.fr.free hp, notin_fp st hp⟩, h p⟩)
theorem sub_im {S : List Slot} {i : Nat} {d : Dt} : ((S.set i (.im d)).flatMap Slot.fp).Sublist (S.flatMap Slot.fp) := by
  induction S generalizing i with
  | nil => exact List.Sublist.refl _
  | cons s S ih =>
    cases i with
    | zero => rw [List.set_cons_zero, List.flatMap_cons, List.flatMap_cons]; exact List.sublist_append_right _ _
    | succ i => rw [List.set_cons_succ, List.flatMap_cons, List.flatMap_cons]; exact (List.Sublist.refl _).append ih
def GsL (X : Cx) (g : Cl) (Fr : Hp) (ts : List Expr) (ds : List Dt) (p : Addr) (S : List Slot) (T : List Slot → Prop) : Prop := ∀ σ H0 H vs, StR X.K g Fr H0 H σ S → RepL X.K g H0 vs ds → NewL Fr H0 H S p → gsSem X ts (vs ++ [.ref p]) σ H (nxP X.K g Fr H0 T)
theorem gsl_name (i : Nat) {x : Str} {xp : Pos} {es : List Expr} {d : Dt} {ds : List Dt} {p : Addr} {T : List Slot → Prop} (hN : X.N.Nodup) (h : GsL X g Fr es ds p (S.set i (.im d)) T) (hi : X.N[i]? = some x := by rfl) (hx : Loc X.env.scope x := by first | exact Or.inl rfl | exact Or.inr rfl) (hf : X.fn x = true ∨ X.env.scope.names.lookup x = some .local := by first | exact .inl rfl | exact .inr rfl)
    (hs : (assignEach (.Name x xp :: es) X.env).map (·.2) = assign (.Name x xp) X.env :: (assignEach es X.env).map (·.2) := by rfl) : GsL X g Fr (.Name x xp :: es) (d :: ds) p S T :=
  fun σ H0 H vs st r nw => gssem_of (pgs_cons (pg_name hN hi hx hf) pgs_sem hs) (by
    cases r with
    | cons r1 r2 => exact ⟨_, _, rfl, h _ H0 H _ (st.set_im r1) r2 ⟨nw.at_, nw.h0, nw.fr, fun hm => nw.nf (sub_im.subset hm)⟩⟩)
theorem gsl_last (i : Nat) {x : Str} {xp : Pos} {p : Addr} {T : List Slot → Prop} (hN : X.N.Nodup) (hl : i < S.length) (h : T (S.set i (.own p (.lst [])))) (hi : X.N[i]? = some x := by rfl) (hx : Loc X.env.scope x := by first | exact Or.inl rfl | exact Or.inr rfl) (hf : X.fn x = true ∨ X.env.scope.names.lookup x = some .local := by first | exact .inl rfl | exact .inr rfl)
    (hs : (assignEach [.Name x xp] X.env).map (·.2) = assign (.Name x xp) X.env :: (assignEach [] X.env).map (·.2) := by rfl) : GsL X g Fr [.Name x xp] [] p S T :=
  fun σ H0 H vs st r nw => gssem_of (pgs_cons (pg_name hN hi hx hf) pgs_nil hs) (by
    cases r
    refine ⟨_, _, rfl, rfl, S.set i (.own p (.lst [])), H0, Ex.refl _, ?_, h⟩
    have st1 : StR X.K g Fr H0 H (σ ++ [some (.ref p)]) (S ++ [.own p (.lst [])]) := st.snoc_own ⟨[], nw.at_, .nil⟩ (fun a ha => by
      have e : a = p := by simpa [OD.fp] using ha
      subst e
      exact ⟨nw.h0, nw.fr, nw.nf⟩) (by simp [OD.fp])
    exact st1.take hl)
theorem argAll {K : PySem.W.Frag} {H0 : Hp} : ∀ {vs : List V} {ds : List Dt}, ArgR K g H0 S vs (ds.map Slot.im) → RepL K g H0 vs ds
  | _, [], h => by cases h; exact .nil
  | _, d :: ds, h => by
    cases h with
    | im r t => exact .cons r (argAll t)
/-- a, b, .., f = .., .., .., [] -/
theorem s_tupL {ts es : List Expr} {kt k2 : Nat} {pt pt2 : Pos} (hc : X.calm = true) (h : AL X g Fr es S fun ss S1 p => ∃ ds : List Dt, ss = ds.map Slot.im ∧ ds.length + 1 = es.length ∧ ds.length ≤ 1000 ∧ GsL X g Fr ts ds p S1 D.nx) (hn : (assignEach ts X.env).length = es.length := by rfl) (hst : (assignEach ts X.env).findIdx? (·.1) = none := by rfl)
    (hs : swapsWithSole [.Tuple ts kt pt] (.Tuple es k2 pt2) pos.line X.env = pure false := by rfl) (hw : swappedStores [.Tuple ts kt pt] (.Tuple es k2 pt2) X.env = pure none := by rfl) (h1 : (assignEach [.Tuple ts kt pt] X.env).map (·.2) = [assign (.Tuple ts kt pt) X.env] := by rfl) :
    S1 X g Fr (.Assign [.Tuple ts kt pt] (.Tuple es k2 pt2) pos) S D :=
  fun σ H0 H st => semS_of (ps_asg (pe_tup pa_sem) (pg_tup hc pgs_sem hn hst) hs hw h1) (semA_mono (h σ H0 H st) fun vs H1 ⟨ss, ws, p, S1, H01, ev, e1, st1, ra, nw, ds, es', hl, hl2, q⟩ => by
    subst es'
    have r := argAll ra
    have lw := r.length
    subst ev
    refine ⟨by rw [List.length_append, lw]; show ds.length + 1 ≤ _; exact Nat.le_trans (show ds.length + 1 ≤ 1001 by omega) (by decide), fun t ht => ?_⟩
    refine ⟨t, _, rfl, st_of upd_same, by rw [List.length_append, lw]; exact hl, ?_⟩
    refine gssem_mono (q σ H01 _ ws (st1.grow (Ex.new ht)) r ⟨Ex.new ht _ _ nw.at_, nw.h0, nw.fr, nw.nf⟩) fun _ _ z => z.back e1)
/-- a, f = .., [] -/
theorem s_parL (i j : Nat) {x y : Str} {a : Expr} {px py pt p1 : Pos} {kt k2 pt2} (hc : X.calm = true) (hN : X.N.Nodup) (h : EW X g Fr a S fun d S1 => j < S1.length ∧ ∀ p, D.nx ((S1.set i (.im d)).set j (.own p (.lst [])))) (hi : X.N[i]? = some x := by rfl) (hj : X.N[j]? = some y := by rfl) (hij : i ≠ j := by decide)
    (hx : X.env.scope.names.lookup x = some .local := by rfl) (hy : X.env.scope.names.lookup y = some .local := by rfl) (hw : swappedStores [.Tuple [.Name x px, .Name y py] kt pt] (.Tuple [a, .List [] p1] k2 pt2) X.env = pure (some [x, y]) := by rfl)
    (hs : swapsWithSole [.Tuple [.Name x px, .Name y py] kt pt] (.Tuple [a, .List [] p1] k2 pt2) pos.line X.env = pure false := by rfl) (hst : starEach [a, .List [] p1] X.env = (false, eval a X.env) :: starEach [.List [] p1] X.env := by rfl) (hst2 : starEach [.List [] p1] X.env = (false, eval (.List [] p1) X.env) :: starEach [] X.env := by rfl) : S1 X g Fr (.Assign [.Tuple [.Name x px, .Name y py] kt pt] (.Tuple [a, .List [] p1] k2 pt2) pos) S D :=
  fun σ H0 H st => semS_of (ps_par hc hN hi hj hij hx hy pa_sem hw hs) (semA_mono (al_im (A := fun ss S1 p => ∃ d, ss = [.im d] ∧ j < S1.length ∧ D.nx ((S1.set i (.im d)).set j (.own p (.lst [])))) (ew_mono h fun d S1 q => al_new (fun p => ⟨d, rfl, q.1, q.2 p⟩) hst2) hst σ H0 H st) fun vs H1 ⟨ss, ws, p, S1, H01, ev, e1, st1, ra, nw, d, es', hl, q⟩ => by
    subst es'
    obtain ⟨v, rfl, r1⟩ := arg1 ra
    refine ⟨v, _, ev, _, H01, e1, ?_, q⟩
    have st2 := st1.set_im (i := i) r1
    have st3 : StR X.K g Fr H01 H1 (σ.set i (some v) ++ [some (.ref p)]) (S1.set i (.im d) ++ [.own p (.lst [])]) := st2.snoc_own ⟨[], nw.at_, .nil⟩ (fun a ha => by
      have e : a = p := by simpa [OD.fp] using ha
      subst e
      exact ⟨nw.h0, nw.fr, fun hm => nw.nf (sub_im.subset hm)⟩) (by simp [OD.fp])
    exact st3.take (by rw [List.length_set]; exact hl))
end
end DL

set_option Elab.async false
set_option linter.all false
set_option autoImplicit false
set_option maxRecDepth 100000
set_option maxHeartbeats 4000000
/-! The data layer, eighteenth part: a tuple once, or not at all. -/
namespace DL
open PySem PySem.Spec PyProof.Rows L2 PK
theorem tuple_mul1 (l : Addr) (items : Array Value) (n : Nat) (dd : Option Addr) (sl : Array (Option Value)) (u : Tok) :
    Meets (Builtin.«tuple.__mul__» ⟨[.ref l, .int 1 u], []⟩) (fun _ R s => s.heap.get? l = some { cls := .type "tuple", dict := dd, data := .seq items n, slots := sl } ∧
      R (.ok (.ret (Value.ref l))) s) :=
  .of_wp fun prog w A R s h => by
    obtain ⟨hp, g, d, tk, os⟩ := s
    obtain ⟨hl, h⟩ := h
    have f1 := AutoSeq1.idx_int
    wp_walk using wpAny_loadPart' hl
    exact ⟨_, rfl, h⟩
theorem tuple_mul0 (l : Addr) (items : Array Value) (n : Nat) (dd : Option Addr) (sl : Array (Option Value)) (u : Tok) (c1 : (items.isEmpty || (0 : Int) == 1) = false) :
    Meets (Builtin.«tuple.__mul__» ⟨[.ref l, .int 0 u], []⟩) (fun _ R s => s.heap.get? l = some { cls := .type "tuple", dict := dd, data := .seq items n, slots := sl } ∧
      R (.ok (.ret (Value.ref s.heap.objs.size))) { s with heap := s.heap.push { cls := Value.type "tuple", data := Data.seq #[] }, toks := s.toks }) :=
  .of_wp fun prog w A R s h => by
    obtain ⟨hp, g, d, tk, os⟩ := s
    obtain ⟨hl, h⟩ := h
    have f1 := AutoSeq1.idx_int
    wp_walk using wpAny_loadPart' hl
    refine wpAny_ite_false (decide_eq_false (by rw [c1]; exact Bool.false_ne_true)) ?_
    wp_walk using wpAny_loadPart' hl
    exact ⟨_, rfl, h⟩
def rRepS (K : PySem.W.Frag) : R2 := fun x y H Q => ∃ l k xs, x = .ref l ∧ y = .int k ∧ SqT K H l xs ∧ xs ≠ [] ∧ ((k = 1 ∧ Q (.ref l) H) ∨ (k = 0 ∧ ∀ p, H p = none → Q (.ref p) (upd H p (.tup []))))
section
variable {X : Cx} {g : Cl} {Fr : Hp} {S : List Slot} {R : Dt → List Slot → Prop} {D : DE} {pos : Pos}
theorem op_repS : OpR X (binaryOp .Mult) (rRepS X.K) := by
  intro pins s σ H x y v u Q I rx ry h
  obtain ⟨l, k, xs, rfl, rfl, hT, hne, hq⟩ := h
  cases rx
  obtain ⟨t, rfl⟩ := ry
  obtain ⟨its, r, ⟨⟨cls, dd, data, sl⟩, ho, hc, n, hd⟩, hs⟩ := I.tuple hT
  simp only at hc hd
  subst hc hd
  have hle : its.length = xs.length := r.length.symm
  have hn : its ≠ [] := fun e => hne (by
    rw [e] at hle
    exact List.eq_nil_of_length_eq_zero hle.symm)
  have hi : its.toArray.isEmpty = false := by
    cases its with
    | nil => exact absurd rfl hn
    | cons a b => rfl
  rcases hq with ⟨rfl, q⟩ | ⟨rfl, q⟩
  · refine wpAny_binaryOp_repeat_ref (T := "tuple") (U := "int") (by decide) ⟨_, ho, rfl⟩ (fun s' => typeIs_int s' 1 t) noFill_tuple_mul F.fills_int_mul F.slot_int_rmul repeat_tuple F.slot_int_index.lookup
      (call_meets F.slot_int_rmul (typeIs_int s 1 t) F.entry_int_rmul (F.args_int_rmul_2 _ _) (int_rmul_tuple 1 t l its.toArray n dd sl)
        ⟨ho, rfl, ⟨_, ho, rfl⟩, call_meets F.slot_tuple_mul ⟨_, ho, rfl⟩ F.entry_tuple_mul (F.args_tuple_mul_2 _ _) (tuple_mul1 l its.toArray n dd sl t) ⟨ho, ?_⟩⟩)
    exact ⟨.ref l, H, I, rfl, q⟩
  · refine wpAny_binaryOp_repeat_ref (T := "tuple") (U := "int") (by decide) ⟨_, ho, rfl⟩ (fun s' => typeIs_int s' 0 t) noFill_tuple_mul F.fills_int_mul F.slot_int_rmul repeat_tuple F.slot_int_index.lookup
      (call_meets F.slot_int_rmul (typeIs_int s 0 t) F.entry_int_rmul (F.args_int_rmul_2 _ _) (int_rmul_tuple 0 t l its.toArray n dd sl)
        ⟨ho, rfl, ⟨_, ho, rfl⟩, call_meets F.slot_tuple_mul ⟨_, ho, rfl⟩ F.entry_tuple_mul (F.args_tuple_mul_2 _ _) (tuple_mul0 l its.toArray n dd sl t (by rw [hi]; rfl)) ⟨ho, ?_⟩⟩)
    refine ⟨.ref s.heap.objs.size, _, I.laid (t' := s.toks) (o := .tup []) (fun b ob q => Heap.get?_push_of_some _ q) (Nat.le_refl _) ?_, rfl, q _ (I.hok.fresh (Nat.le_refl _))⟩
    exact ⟨Nat.zero_le _, [], .nil, IsTup.new _ _⟩
/-- a tuple repeated: any number of times -/
theorem ow_repN {xs : List Dt} {i : Int} (hx : xs ≠ []) (hk : 0 ≤ i ∧ i ≤ 1000) (hl : xs.length ≤ 1000) (h : R (.tup (List.replicate i.toNat xs).flatten) S) : OpW X g Fr (binaryOp .Mult) (.tup xs) (.int i) S R := by
  by_cases c : 2 ≤ i
  · exact ow_repT hx ⟨c, hk.2⟩ hl h
  refine ow_of op_repS fun σ H0 H v1 v2 st r1 r2 => ?_
  cases r2
  cases r1 with
  | tup e1 l1 =>
    refine ⟨_, _, _, rfl, rfl, st_of (st.ex _ _ e1), fun z => ?_, ?_⟩
    · subst z; cases l1; exact hx rfl
    · by_cases c1 : i = 1
      · subst c1
        refine .inl ⟨rfl, done st (.tup e1 l1) ?_⟩
        have e : (List.replicate (1 : Int).toNat xs).flatten = xs := by simp
        rw [e] at h; exact h
      · have c0 : i = 0 := by omega
        subst c0
        exact .inr ⟨rfl, fun p hp => doneN st hp (fun H1 ex e => .tup e .nil) h⟩
end
end DL

set_option Elab.async false
set_option linter.all false
set_option autoImplicit false
set_option maxRecDepth 100000
set_option maxHeartbeats 4000000
/-! The data layer, nineteenth part: ways joined; a list of one's own read. -/
namespace DL
open PySem PySem.Spec PyProof.Rows L2 PK
section
variable {X : Cx} {g : Cl} {Fr : Hp} {S : List Slot} {R : Dt → List Slot → Prop} {D : DE} {pos : Pos}
/-- a statement whose ways are joined -/
theorem s_to {st : Stmt} (Pq : List Slot → Prop) (h : S1 X g Fr st S { nx := Pq, rt := fun _ _ => False }) (q : ∀ S', Pq S' → D.nx S') : S1 X g Fr st S D := fun σ H0 H s0 => semS_mono (h σ H0 H s0)
  ⟨fun σ' H' ⟨S', H0', e, st', f⟩ => ⟨S', H0', e, st', q S' f⟩, fun _ _ ⟨_, _, _, _, _, _, q⟩ => q.elim, fun _ _ ⟨_, _, _, _, q⟩ => q.elim, fun _ _ ⟨_, _, _, _, q⟩ => q.elim⟩
/-- the same, with returns -/
theorem s_toR {st : Stmt} (Pq : List Slot → Prop) (h : S1 X g Fr st S { nx := Pq, rt := D.rt, bk := D.bk, ct := D.ct }) (q : ∀ S', Pq S' → D.nx S') : S1 X g Fr st S D := fun σ H0 H s0 => semS_mono (h σ H0 H s0)
  ⟨fun σ' H' ⟨S', H0', e, st', f⟩ => ⟨S', H0', e, st', q S' f⟩, fun _ _ q => q, fun _ _ q => q, fun _ _ q => q⟩
def srcOnly : Slot → Prop
  | .own _ .src => True
  | .own _ _ => False
  | _ => True
/-- an expression over a list of one's own, whose value is a number -/
theorem ew_read (i : Nat) {p : Addr} {ds : List Dt} {e : Expr} (hS : S[i]? = some (.own p (.lst ds))) (ho : ∀ j s, j ≠ i → S[j]? = some s → srcOnly s) (h : EW X g Fr e (S.set i (.im (.lst ds))) fun d S1 => S1 = S.set i (.im (.lst ds)) ∧ ∃ n, d = .int n ∧ R (.int n) S) : EW X g Fr e S R := fun σ H0 H st => by
  obtain ⟨H0a, ea, sta⟩ := st.freeze hS
  refine sem_mono (h σ H0a H sta) fun v H' hh => ?_
  obtain ⟨d, S1, H0', e1, st1, r, eS, n, ed, q⟩ := hh
  subst ed
  subst eS
  have rv : v = .int n := by cases r; rfl
  subst rv
  have il : i < S.length := (List.getElem?_eq_some_iff.mp hS).1
  obtain ⟨hp, vs, hl, rl⟩ := st.own_at hS
  have hH : ∀ a o, H0 a = some o → H' a = some o := fun a o z => st1.ex a o (e1 a o (ea a o z))
  refine ⟨.int n, S, H0, Ex.refl _, ⟨hH, st1.fr, st.dis, st.len, fun j s hj => ?_, st.nd, st.free⟩, .int n, q⟩
  by_cases c : j = i
  · subst c
    rw [hS] at hj
    cases hj
    refine ⟨hp, vs, ?_, rl⟩
    have ha : H0a p = some (.lst vs) := by
      have z := sta.sl j (.im (.lst ds)) (by rw [List.getElem?_set, if_pos rfl, if_pos il])
      obtain ⟨v, hv, rr⟩ := z
      rw [hp] at hv
      cases hv
      cases rr with
      | lst h1 h2 =>
        have := sta.ex _ _ h1
        rw [hl] at this
        cases this
        exact h1
    exact st1.ex _ _ (e1 _ _ ha)
  · have h0 := st.sl j s hj
    have h1 := st1.sl j s (by rw [List.getElem?_set, if_neg (fun e => c e.symm)]; exact hj)
    cases s with
    | no => exact trivial
    | im d => exact h0
    | own q o =>
      have := ho j _ c hj
      cases o with
      | src => exact h1
      | _ => exact this.elim
theorem cw_minO {p : Addr} {xs : List Dt} (hc : X.calm = true) (hu : X.A.units + 64 < cLine) (hne : xs ≠ []) (al : AlkD xs) (h : ∀ d ∈ xs, (∀ e ∈ xs, ltD e d = false) → R d S) : CW X g Fr (.builtin "min") [.own p (.lst xs)] S R := cw_of (cr_minD hc hu) fun σ H0 H vs st ra => by
  cases ra with
  | own hm t =>
    cases t
    obtain ⟨i, hi⟩ := List.mem_iff_getElem?.mp hm
    obtain ⟨_, us, hl, rl⟩ := st.own_at hi
    have hp : toPyL xs ≠ [] := by
      cases xs with
      | nil => exact absurd rfl hne
      | cons a t => simp [toPyL]
    refine ⟨_, _, toPyL xs, rfl, sq_of hl, repL_dp al.pl (rl.mono st.ex), hp, al.all, by rw [depL_py]; exact al.dp, fun i w hi hb => ?_⟩
    obtain ⟨d, hd, rd⟩ := rl.getV hi
    obtain ⟨d', hd', ed⟩ := toPyL_at hb
    rw [hd] at hd'
    cases hd'
    refine done st rd (h d (List.mem_of_getElem? hd) fun z hz => ?_)
    have hz' := mem_toPyL hz
    unfold ltD
    rw [ed]
    revert hz'
    generalize toPyL xs = ps at hp
    generalize toPy z = pz
    intro hz'
    cases ps with
    | nil => exact absurd rfl hp
    | cons x t => exact fold_best (fun y a => PySem.W.dataLt y a) (fun x => lex_irrefl (O := itemOrd) _) (fun x y z h k => lex_trans (O := itemOrd) _ _ _ h k) t x [] (by simp; exact lex_irrefl (O := itemOrd) _) pz (by simpa using hz')
end
end DL

set_option Elab.async false
set_option linter.all false
set_option autoImplicit false
set_option maxRecDepth 100000
set_option maxHeartbeats 4000000
/-! The data layer, twentieth part: a dict of answers; not in a tuple; tuple(range(..)). -/
namespace DL
open PySem PySem.Spec PyProof.Rows L2 PK
theorem few_of_nodup {α : Type} [DecidableEq α] : ∀ (l m : List α), l.Nodup → (∀ x ∈ l, x ∈ m) → l.length ≤ m.length
  | [], m, _, _ => Nat.zero_le _
  | x :: r, m, nd, h => by
    have hx := h x List.mem_cons_self
    have nd' := List.nodup_cons.mp nd
    have ih := few_of_nodup r (m.erase x) nd'.2 fun y hy => by
      have ne : y ≠ x := fun e => by subst e; exact nd'.1 hy
      exact (List.mem_erase_of_ne ne).mpr (h y (List.mem_cons_of_mem _ hy))
    rw [List.length_erase_of_mem hx] at ih
    have := List.length_pos_of_mem hx
    rw [List.length_cons]; omega
theorem inl_inj : ∀ {a b : List Int}, a.map (Sum.inl : Int → Key) = b.map Sum.inl → a = b
  | [], [], _ => rfl
  | [], _ :: _, h => by simp at h
  | _ :: _, [], h => by simp at h
  | x :: r, y :: t, h => by
    simp only [List.map_cons, List.cons.injEq, Sum.inl.injEq] at h
    rw [h.1, inl_inj h.2]
theorem memo_few {J : List Int → Dt → Prop} {U : List (List Int)} {kvs : List (List Key × Dt)} (h : MemoOk J U kvs) : kvs.length ≤ U.length := by
  have := few_of_nodup (kvs.map (·.1)) (U.map fun us => us.map Sum.inl) h.1 fun x hx => by
    obtain ⟨e, he, rfl⟩ := List.mem_map.mp hx
    obtain ⟨us, hu, ek, _⟩ := h.2 e he
    exact List.mem_map.mpr ⟨us, hu, ek.symm⟩
  simpa using this
theorem memo_nil (J : List Int → Dt → Prop) (U : List (List Int)) : MemoOk J U [] := ⟨by simp, by simp⟩
/-- d set at k -/
def putM (kvs : List (List Key × Dt)) (k : List Key) (d : Dt) : List (List Key × Dt) := if (kvs.any fun kv => decide (kv.1 = k)) = true then kvs.map fun kv => if kv.1 = k then (kv.1, d) else kv else kvs ++ [(k, d)]
theorem putM_keys {kvs : List (List Key × Dt)} {k : List Key} {d : Dt} (h : (kvs.any fun kv => decide (kv.1 = k)) = true) : (kvs.map fun kv => if kv.1 = k then (kv.1, d) else kv).map (·.1) = kvs.map (·.1) := by
  rw [List.map_map]
  apply List.map_congr_left
  intro a _
  show (if a.1 = k then (a.1, d) else a).1 = a.1
  split <;> rfl
theorem memo_put {J : List Int → Dt → Prop} {U : List (List Int)} {kvs : List (List Key × Dt)} {us : List Int} {d : Dt} (h : MemoOk J U kvs) (hu : us ∈ U) (hj : J us d) : MemoOk J U (putM kvs (us.map Sum.inl) d) ∧ (us.map Sum.inl, d) ∈ putM kvs (us.map Sum.inl) d := by
  unfold putM
  by_cases c : (kvs.any fun kv => decide (kv.1 = us.map Sum.inl)) = true
  · rw [if_pos c]
    refine ⟨⟨?_, fun e he => ?_⟩, ?_⟩
    · rw [putM_keys c]; exact h.1
    · obtain ⟨a, ha, rfl⟩ := List.mem_map.mp he
      by_cases ea : a.1 = us.map Sum.inl
      · rw [if_pos ea]; exact ⟨us, hu, ea, hj⟩
      · rw [if_neg ea]; exact h.2 a ha
    · obtain ⟨a, ha, ea⟩ := List.any_eq_true.mp c
      have ea := of_decide_eq_true ea
      exact List.mem_map.mpr ⟨a, ha, by rw [if_pos ea, ea]⟩
  · rw [if_neg c]
    refine ⟨⟨?_, fun e he => ?_⟩, by simp⟩
    · rw [List.map_append]
      refine List.nodup_append.mpr ⟨h.1, by simp, fun x hx y hy e => ?_⟩
      subst e
      simp only [List.map_cons, List.map_nil, List.mem_cons, List.not_mem_nil, or_false] at hy
      obtain ⟨a, ha, ea⟩ := List.mem_map.mp hx
      exact c (List.any_eq_true.mpr ⟨a, ha, decide_eq_true (ea.trans hy)⟩)
    · rcases List.mem_append.mp he with q | q
      · exact h.2 e q
      · rw [List.mem_singleton.mp q]; exact ⟨us, hu, rfl, hj⟩
section
variable {K : PySem.W.Frag} {g : Cl} {H : Hp}
theorem krep_any {k : List Key} : ∀ {kws : List (List Key × V)} {kvs : List (List Key × Dt)}, KRep K g H kws kvs → (kws.any fun kv => decide (kv.1 = k)) = (kvs.any fun kv => decide (kv.1 = k))
  | [], [], _ => rfl
  | [], _ :: _, h => by simp [KRep] at h
  | _ :: _, [], h => by simp [KRep] at h
  | a :: r, b :: t, h => by
    obtain ⟨h1, h2⟩ := h
    simp only [List.map_cons, List.cons.injEq] at h1
    cases h2 with
    | cons x y => rw [List.any_cons, List.any_cons, h1.1, krep_any (kws := r) (kvs := t) ⟨h1.2, y⟩]
theorem krep_repl {k : List Key} {v : V} {d : Dt} (r : Rep K g H v d) : ∀ {kws : List (List Key × V)} {kvs : List (List Key × Dt)}, KRep K g H kws kvs → KRep K g H (kws.map fun kv => if kv.1 = k then (kv.1, v) else kv) (kvs.map fun kv => if kv.1 = k then (kv.1, d) else kv)
  | [], [], h => h
  | [], _ :: _, h => by simp [KRep] at h
  | _ :: _, [], h => by simp [KRep] at h
  | a :: u, b :: t, h => by
    obtain ⟨h1, h2⟩ := h
    simp only [List.map_cons, List.cons.injEq] at h1
    cases h2 with
    | cons x y =>
      obtain ⟨i1, i2⟩ := krep_repl (k := k) r (kws := u) (kvs := t) ⟨h1.2, y⟩
      rw [List.map_cons, List.map_cons]
      by_cases c : a.1 = k
      · rw [if_pos c, if_pos (h1.1 ▸ c)]
        exact ⟨by rw [List.map_cons, List.map_cons, i1]; exact congrArg (· :: _) h1.1, .cons r i2⟩
      · rw [if_neg c, if_neg (fun e => c (h1.1 ▸ e))]
        exact ⟨by rw [List.map_cons, List.map_cons, i1, h1.1], .cons x i2⟩
theorem krep_putM {k : List Key} {v : V} {d : Dt} (r : Rep K g H v d) {kws : List (List Key × V)} {kvs : List (List Key × Dt)} (h : KRep K g H kws kvs) : KRep K g H (putK kws k v) (putM kvs k d) := by
  unfold putK putM
  rw [krep_any h]
  split
  · exact krep_repl r h
  · exact ⟨by rw [List.map_append, List.map_append, h.1]; rfl, by rw [List.map_append, List.map_append]; exact h.2.append (.cons r .nil)⟩
theorem krep_get {k : List Key} {d : Dt} : ∀ {kws : List (List Key × V)} {kvs : List (List Key × Dt)}, KRep K g H kws kvs → (kvs.map (·.1)).Nodup → (k, d) ∈ kvs → ∃ v, valV kws k = some v ∧ Rep K g H v d
  | [], [], _, _, h => by cases h
  | [], _ :: _, h, _, _ => by simp [KRep] at h
  | _ :: _, [], h, _, _ => by simp [KRep] at h
  | a :: u, b :: t, h, nd, hm => by
    obtain ⟨h1, h2⟩ := h
    simp only [List.map_cons, List.cons.injEq] at h1
    rw [List.map_cons] at nd
    have nd' := List.nodup_cons.mp nd
    cases h2 with
    | cons x y =>
      by_cases c : a.1 = k
      · refine ⟨a.2, valV_pos c, ?_⟩
        rcases List.mem_cons.mp hm with e | e
        · rw [← e] at x; exact x
        · exact absurd (List.mem_map.mpr ⟨_, e, by show k = b.1; rw [← h1.1, c]⟩) nd'.1
      · rw [valV_neg c]
        rcases List.mem_cons.mp hm with e | e
        · rw [← e] at h1; exact absurd h1.1 c
        · exact krep_get (kws := u) (kvs := t) ⟨h1.2, y⟩ nd'.2 e
theorem krep_there {k : List Key} {v : V} : ∀ {kws : List (List Key × V)} {kvs : List (List Key × Dt)}, KRep K g H kws kvs → valV kws k = some v → ∃ d, (k, d) ∈ kvs
  | [], _, _, h => by cases h
  | _ :: _, [], h, _ => by simp [KRep] at h
  | a :: u, b :: t, h, e => by
    obtain ⟨h1, h2⟩ := h
    simp only [List.map_cons, List.cons.injEq] at h1
    cases h2 with
    | cons x y =>
      by_cases c : a.1 = k
      · exact ⟨b.2, by rw [← c, h1.1]; exact List.mem_cons_self⟩
      · rw [valV_neg c] at e
        obtain ⟨d, hd⟩ := krep_there (kws := u) (kvs := t) ⟨h1.2, y⟩ e
        exact ⟨d, List.mem_cons_of_mem _ hd⟩
theorem key_rep {a : Addr} {us : List Int} (r : Rep K g H (.ref a) (.tup (us.map Dt.int))) : H a = some (.tup ((us.map (Sum.inl : Int → Key)).map kV)) := by
  cases r with
  | tup h l => rw [l.ints] at h; rw [h, List.map_map]; rfl
theorem krep_len {kws : List (List Key × V)} {kvs : List (List Key × Dt)} (h : KRep K g H kws kvs) : kws.length = kvs.length := by
  have := congrArg List.length h.1
  simpa using this
end
section
variable {X : Cx} {g : Cl} {Fr : Hp} {S : List Slot} {R : Dt → List Slot → Prop} {F : Slot → List Slot → Prop} {D : DE} {pos : Pos}
theorem rep_tup_ref {K : PySem.W.Frag} {H : Hp} {v : V} {xs : List Dt} (r : Rep K g H v (.tup xs)) : ∃ a, v = .ref a := by
  cases r with
  | tup h l => exact ⟨_, rfl⟩
/-- us not in the dict of answers -/
theorem tw_notInM (i : Nat) {x : Str} {e : Expr} {xp : Pos} {p : Addr} {J : List Int → Dt → Prop} {U : List (List Int)} {T : Bool → List Slot → Prop} (hu : X.A.units + 64 < cLine)
    (h : EW X g Fr e S fun d S1 => ∃ us : List Int, d = .tup (us.map Dt.int) ∧ S1[i]? = some (.own p (.memo J U)) ∧ T true S1 ∧ ∀ kvs d, MemoOk J U kvs → (us.map Sum.inl, d) ∈ kvs → T false (S1.set i (.own p (.dT kvs))))
    (hN : X.N[i]? = some x := by rfl) (hv : Vis X.env.scope x := by first | exact Or.inl rfl | exact Or.inr (Or.inl rfl) | exact Or.inr (Or.inr rfl)) (hd : (x == ("__debug__" : Str)) = false := by decide) (hcd : (x == ("__classdict__" : Str)) = false := by decide)
    (h1 : behindInMarks .NotIn (.Name x xp) = false := by rfl) : TW X g Fr (.Compare e [.NotIn] [.Name x xp] pos) S T :=
  fun σ H0 H st => semT_of (pt_cmp (pc_dnotin (by omega) pe_sem (pe_var hN hv hd hcd)) h1) (sem_mono (h σ H0 H st) fun v H1 ⟨d, S1, H01, e1, st1, r, us, ed, hi, q1, q2⟩ => by
    subst ed
    obtain ⟨a, rfl⟩ := rep_tup_ref r
    obtain ⟨hp, kvs, kws, hk, kr, mo⟩ := st1.own_at hi
    have ka := key_rep r
    refine ⟨.ref p, hp, p, _, rfl, .t hk (st1.ex _ _ ka), ?_⟩
    cases hval : valV kws (us.map Sum.inl) with
    | none => exact ⟨_, rfl, S1, H01, e1, st1, q1⟩
    | some w =>
      obtain ⟨d, hd⟩ := krep_there kr hval
      exact ⟨_, rfl, S1.set i (.own p (.dT kvs)), H01, e1, st1.conv hi rfl fun _ => ⟨kws, hk, kr⟩, q2 kvs d mo hd⟩)
/-- the answer at us -/
theorem ew_getM (i : Nat) {x : Str} {e : Expr} {xp : Pos} {p : Addr} {kvs : List (List Key × Dt)} (hu : X.A.units + 64 < cLine) (hS : S[i]? = some (.own p (.dT kvs)))
    (h : EW X g Fr e S fun d S1 => ∃ (us : List Int) (d' : Dt), d = .tup (us.map Dt.int) ∧ S1[i]? = some (.own p (.dT kvs)) ∧ (kvs.map (·.1)).Nodup ∧ (us.map Sum.inl, d') ∈ kvs ∧ R d' S1)
    (hN : X.N[i]? = some x := by rfl) (hv : Vis X.env.scope x := by first | exact Or.inl rfl | exact Or.inr (Or.inl rfl) | exact Or.inr (Or.inr rfl)) (hd : (x == ("__debug__" : Str)) = false := by decide) (hcd : (x == ("__classdict__" : Str)) = false := by decide)
    (hsl : NoSl e := by exact fun _ _ => rfl) : EW X g Fr (.Subscript (.Name x xp) e pos) S R :=
  ew_of (pe_dget (by omega) (pe_var hN hv hd hcd) pe_sem hsl) fun σ H0 H st => ⟨.ref p, (st.own_at hS).1, sem_mono (h σ H0 H st) fun v H1 ⟨d, S1, H01, e1, st1, r, us, d', ed, hi, nd, hm, q⟩ => by
    subst ed
    obtain ⟨a, rfl⟩ := rep_tup_ref r
    obtain ⟨hp, kws, hk, kr⟩ := st1.own_at hi
    obtain ⟨w, hw, rw'⟩ := krep_get kr nd hm
    exact ⟨p, w, rfl, hw ▸ .t hk (st1.ex _ _ (key_rep r)), d', S1, H01, e1, st1, rw', q⟩⟩
/-- an answer put at us -/
theorem s_putM (i : Nat) {x : Str} {e ie : Expr} {xp tp : Pos} {p : Addr} {J : List Int → Dt → Prop} {U : List (List Int)} (hu : X.A.units + 64 < cLine)
    (h : EW X g Fr e S fun d S1 => S1[i]? = some (.own p (.memo J U)) ∧ EW X g Fr ie S1 fun d2 S2 => ∃ us : List Int, d2 = .tup (us.map Dt.int) ∧ S2[i]? = some (.own p (.memo J U)) ∧ us ∈ U ∧ U.length ≤ 10000 ∧ J us d ∧ ∀ kvs, MemoOk J U kvs → (us.map Sum.inl, d) ∈ kvs → D.nx (S2.set i (.own p (.dT kvs))))
    (hN : X.N[i]? = some x := by rfl) (hv : Vis X.env.scope x := by first | exact Or.inl rfl | exact Or.inr (Or.inl rfl) | exact Or.inr (Or.inr rfl)) (hd : (x == ("__debug__" : Str)) = false := by decide) (hcd : (x == ("__classdict__" : Str)) = false := by decide)
    (hs : swapsWith e (some (.Subscript (.Name x xp) ie tp)) pos.line X.env = pure false := by rfl) : S1 X g Fr (.Assign [.Subscript (.Name x xp) ie tp] e pos) S D :=
  fun σ H0 H st => semS_of (ps_dput (by omega) (pe_var hN hv hd hcd) pe_sem pe_sem hs) (sem_mono (h σ H0 H st) fun v H1 ⟨d, S1, H01, e1, st1, r, hi1, q1⟩ => ⟨.ref p, (st1.own_at hi1).1, sem_mono (q1 σ H01 H1 st1) fun y H2 ⟨d2, S2, H02, e2, st2, r2, us, ed, hi, huU, hU, hj, q⟩ => by
    subst ed
    obtain ⟨a, rfl⟩ := rep_tup_ref r2
    obtain ⟨hp, kvs, kws, hk, kr, mo⟩ := st2.own_at hi
    have few := memo_few mo
    have kl := krep_len kr
    obtain ⟨m1, m2⟩ := memo_put mo huU hj
    have rv := r.mono e2
    refine ⟨p, _, rfl, .t hk (st2.ex _ _ (key_rep r2)) (by rw [sizeLine_eq]; omega), S2.set i (.own p (.dT (putM kvs (us.map Sum.inl) d))), H02, e1.trans e2, ?_, q _ m1 m2⟩
    exact own_chg st2 hi (by simp [OD.fp]) rfl ⟨_, upd_same, krep_putM rv kr⟩⟩)
/-- the dict is a dict of answers again -/
theorem ef_closeM (i : Nat) {e : Expr} (h : EF X g Fr e S fun r S1 => ∃ p J U kvs, S1[i]? = some (.own p (.dT kvs)) ∧ MemoOk J U kvs ∧ F r (S1.set i (.own p (.memo J U)))) : EF X g Fr e S F := fun σ H0 H st =>
  sem_mono (h σ H0 H st) fun v H1 ⟨r, S1, H01, e1, st1, p, J, U, kvs, hi, mo, q⟩ => by
    have hl : i < S1.length := (List.getElem?_eq_some_iff.mp hi).1
    have hi2 : (S1 ++ [r])[i]? = some (.own p (.dT kvs)) := by rw [List.getElem?_append_left hl]; exact hi
    have st2 := st1.conv (o' := .memo J U) hi2 rfl fun ⟨kws, hk, kr⟩ => ⟨kvs, kws, hk, kr, mo⟩
    rw [List.set_append_left _ _ hl] at st2
    exact ⟨r, S1.set i (.own p (.memo J U)), H01, e1, st2, q⟩
/-! ### a new dict as the last argument -/
structure NewD (Fr H0 H : Hp) (S : List Slot) (p : Addr) : Prop where
  at_ : H p = some (.dT [])
  h0 : H0 p = none
  fr : Fr p = none
  nf : p ∉ S.flatMap Slot.fp
def PostN (K : PySem.W.Frag) (g : Cl) (Fr : Hp) (σ : L2.St) (H0 : Hp) (R : List Slot → List Slot → Addr → Prop) : List V → Hp → Prop := fun vs H' => ∃ ss ws p S' H0', vs = ws ++ [.ref p] ∧ Ex H0 H0' ∧ StR K g Fr H0' H' σ S' ∧ ArgR K g H0' S' ws ss ∧ NewD Fr H0' H' S' p ∧ R ss S' p
def AN (X : Cx) (g : Cl) (Fr : Hp) (es : List Expr) (S : List Slot) (R : List Slot → List Slot → Addr → Prop) : Prop := ∀ σ H0 H, StR X.K g Fr H0 H σ S → tSemA X es σ H (PostN X.K g Fr σ H0 R)
theorem an_im {e : Expr} {es : List Expr} {A : List Slot → List Slot → Addr → Prop} (h : EW X g Fr e S fun d S1 => AN X g Fr es S1 fun ss S2 p => A (.im d :: ss) S2 p) (hs : starEach (e :: es) X.env = (false, eval e X.env) :: starEach es X.env := by rfl) : AN X g Fr (e :: es) S A :=
  fun σ H0 H st => semA_of (pa_cons pe_sem pa_sem hs) (sem_mono (h σ H0 H st) fun v1 H1 ⟨d1, S1, H01, e1, st1, r1, h1⟩ => semA_mono (h1 σ H01 H1 st1) fun vs H2 ⟨ss, ws, p, S2, H02, ev, e2, st2, r2, nw, h2⟩ =>
    ⟨.im d1 :: ss, v1 :: ws, p, S2, H02, by rw [ev]; rfl, e1.trans e2, st2, .im (r1.mono e2) r2, nw, h2⟩)
theorem an_new {A : List Slot → List Slot → Addr → Prop} {p1 : Pos} (h : ∀ p, A [] S p) (hs : starEach [.Dict [] [] p1] X.env = (false, eval (.Dict [] [] p1) X.env) :: starEach [] X.env := by rfl) : AN X g Fr [.Dict [] [] p1] S A :=
  fun σ H0 H st => semA_of (pa_cons pe_dnewT pa_nil hs) (fun p hp =>
    ⟨[], [], p, S, H0, rfl, Ex.refl _, st.grow (Ex.new hp), .nil, ⟨upd_same, st.ex.free hp, st.fr.free hp, notin_fp st hp⟩, h p⟩)
theorem argR_more {K : PySem.W.Frag} {H0 : Hp} {T : List Slot} : ∀ {vs : List V} {ss : List Slot}, ArgR K g H0 S vs ss → ArgR K g H0 (S ++ T) vs ss
  | _, _, .nil => .nil
  | _, _, .im r t => .im r (argR_more t)
  | _, _, .own m t => .own (List.mem_append_left _ m) (argR_more t)
theorem argR_snoc {K : PySem.W.Frag} {H0 : Hp} {p : Addr} {o : OD} (hm : Slot.own p o ∈ S) : ∀ {vs : List V} {ss : List Slot}, ArgR K g H0 S vs ss → ArgR K g H0 S (vs ++ [.ref p]) (ss ++ [.own p o])
  | _, _, .nil => .own hm .nil
  | _, _, .im r t => .im r (argR_snoc hm t)
  | _, _, .own m t => .own m (argR_snoc hm t)
theorem StR.dropMid {K : PySem.W.Frag} {H0 H : Hp} {σ : L2.St} {a b : Option V} {s r : Slot} (st : StR K g Fr H0 H (σ ++ [a] ++ [b]) (S ++ [s] ++ [r])) : StR K g Fr H0 H (σ ++ [b]) (S ++ [r]) := by
  have hl : σ.length = S.length := by have := st.len; simpa using this
  have sub : ((S ++ [r]).flatMap Slot.fp).Sublist ((S ++ [s] ++ [r]).flatMap Slot.fp) := by
    rw [List.append_assoc, List.flatMap_append, List.flatMap_append]
    refine (List.Sublist.refl _).append ?_
    rw [List.flatMap_append]
    exact List.sublist_append_right _ _
  refine ⟨st.ex, st.fr, st.dis, by simp [hl], fun j t h => ?_, st.nd.sublist sub, fun x hx => st.free x (sub.subset hx)⟩
  rcases Nat.lt_or_ge j S.length with c | c
  · rw [List.getElem?_append_left c] at h
    have := st.sl j t (by rw [List.append_assoc, List.getElem?_append_left c]; exact h)
    rw [List.append_assoc, List.getElem?_append_left (by omega)] at this
    rw [List.getElem?_append_left (by omega)]; exact this
  · rw [List.getElem?_append_right c] at h
    have e0 : j - S.length = 0 := by
      have := (List.getElem?_eq_some_iff.mp h).1
      simp only [List.length_cons, List.length_nil] at this
      omega
    have ej : j = S.length := by omega
    subst ej
    rw [Nat.sub_self] at h
    have := st.sl (S.length + 1) t (by rw [List.getElem?_append_right (by simp)]; simpa using h)
    rw [List.getElem?_append_right (by simp [hl])] at this
    rw [List.getElem?_append_right (by omega)]
    simpa [hl] using this
/-- f(e, .., {}) -/
theorem ef_callN (J : List Int → Dt → Prop) (U : List (List Int)) {x : Str} {e : Expr} {es : List Expr} {q : Pos} {k : Nat} {Fm : FM} {T : Slot → List Slot → Prop} (G : FnD X.prog X.w X.K X.mg X.base g k x Fm) (hr : Room k X.A)
    (h : AN X g Fr (e :: es) S fun ss S1 p => (ss.flatMap Slot.fp) = [] ∧ Fm (ss ++ [.own p (.memo J U)]) fun r => T r S1) (hg : Gl X x := by rfl) (hdb : (x == ("__debug__" : Str)) = false := by decide)
    (he : starEach (e :: es) X.env = (false, eval e X.env) :: starEach es X.env := by rfl) (hpl : (backTo pos (starEach es X.env)).any (·.1) = false := by rfl) : EF X g Fr (.Call (.Name x q) (e :: es) [] pos) S T := by
  obtain ⟨f, hm, hk, Gf⟩ := G.ex
  exact fun σ H0 H st => sem_of (pe_callR Gf hr hm hk pa_sem hg hdb he hpl) (semA_mono (h σ H0 H st) fun vs H1 ⟨ss, ws, p, S1, H01, ev, e1, st1, ra, nw, nf, qf⟩ => by
    subst ev
    have st2 : StR X.K g Fr H01 H1 (σ ++ [some (.ref p)]) (S1 ++ [.own p (.memo J U)]) := st1.snoc_own ⟨[], [], nw.at_, ⟨rfl, .nil⟩, memo_nil J U⟩ (fun a ha => by
      have ea : a = p := by simpa [OD.fp] using ha
      subst ea
      exact ⟨nw.h0, nw.fr, nw.nf⟩) (by simp [OD.fp])
    have ra2 : ArgR X.K g H01 (S1 ++ [.own p (.memo J U)]) (ws ++ [.ref p]) (ss ++ [.own p (.memo J U)]) := argR_snoc (by simp) (argR_more ra)
    have nd : ((ss ++ [Slot.own p (.memo J U)]).flatMap Slot.fp).Nodup := by rw [List.flatMap_append, nf]; simp [Slot.fp, OD.fp]
    obtain ⟨Fr', H0', ss', a, b⟩ := call_post (X := X) (T := fun r S2 => S2 = S1 ++ [Slot.own p (.memo J U)] ∧ T r S1) G.mono st2 ra2 nd (G.mono _ _ _ (fun r w => ⟨rfl, w⟩) qf)
    exact ⟨Fr', H0', ss', a, G.mono _ _ _ (fun r w v H0'' H'' x1 x2 => by
      obtain ⟨r2, S3, H3, x3, x4, eS, x5⟩ := w v H0'' H'' x1 x2
      subst eS
      exact ⟨r2, S1, H3, e1.trans x3, x4.dropMid, x5⟩) b⟩)
/-! ### not in a tuple; tuple(range(..)) -/
def rNotInT (K : PySem.W.Frag) : R2 := fun x y H Q => ∃ d ds, Dp K H x d ∧ Dp K H y (.tuple ds) ∧ SeqAt.shaped d = true ∧ SeqAt.shaped (.tuple ds) = true ∧ Q (.bl (!ds.any fun z => PyData.eqv z d)) H
theorem op_notInT (hu : X.A.units + 65 < cLine) : OpR X (compareOp .NotIn) (rNotInT X.K) := by
  intro pins s σ H x y v u Q I rx ry h
  obtain ⟨d, ds, hd, he, sd, se, q⟩ := h
  obtain ⟨as, r1⟩ := Dp.reads I d x v hd rx
  obtain ⟨bs, r2⟩ := Dp.reads I (.tuple ds) y u he ry
  exact SeqAt.notIn_tuple_reads r2 r1 (canT se) (SeqAt.canLay_of_shaped sd) (room_inT sd hu) ⟨.bl _, H, I, rfl, q⟩
theorem ow_notInT {d : Dt} {ds : List Dt} (hu : X.A.units + 65 < cLine) (h1 : EqOk d) (h2 : EqOk (.tup ds)) (h : ∀ k : Bool, (k = false ↔ d ∈ ds) → R (.bl k) S) : OpW X g Fr (compareOp .NotIn) d (.tup ds) S R := ow_of (op_notInT hu) fun σ H0 H v1 v2 st r1 r2 =>
  ⟨toPy d, toPyL ds, rep_dp (noBool_plain _ h1.nb) (r1.mono st.ex), rep_dp (d := .tup ds) (noBool_plain _ h2.nb) (r2.mono st.ex), shaped_of (noBool_plain _ h1.nb) h1.dp, shaped_of (d := .tup ds) (noBool_plain _ h2.nb) h2.dp, done st (.bl _) (h _ (by
    rw [Bool.not_eq_false']
    exact any_eqv h1.nb (by have := h2.nb; simpa [noBool] using this)))⟩
theorem eqTup (l : List Int) : EqOk (.tup (l.map Dt.int)) := ⟨by simp only [noBool]; exact noBoolL_map (fun _ => rfl) l, by
  have := depL_map (f := Dt.int) (n := 0) (fun _ => Nat.le_refl 0) l
  simp only [depD]; omega⟩
theorem rgV_D {K : PySem.W.Frag} {H : Hp} (n : Int) : RepL K g H (rgV 0 n) (rangeD 0 n.toNat) := by
  have e1 : rgV 0 n = ((List.range n.toNat).map fun i : Nat => (0 : Int) + (i : Int)).map V.int := by unfold rgV; rw [List.map_map, Int.sub_zero]; rfl
  have e2 : rangeD 0 n.toNat = ((List.range n.toNat).map fun i : Nat => (0 : Int) + (i : Int)).map Dt.int := by unfold rangeD; rw [List.map_map]; rfl
  rw [e1, e2]
  exact RepL.of_ints _
/-- tuple(range(e)) -/
theorem ew_tupR {a : Expr} {p1 p2 p3 : Pos} (hc : X.calm = true) (hm1 : X.mg "tuple" = none) (hm2 : X.mg "range" = none) (h : EW X g Fr a S fun d S1 => ∃ n, d = .int n ∧ 0 ≤ n ∧ n ≤ 10000 ∧ R (.tup (rangeD 0 n.toNat)) S1) (hg1 : Gl X "tuple" := by rfl) (hg2 : Gl X "range" := by rfl)
    (na : starEach [a] X.env = (false, eval a X.env) :: starEach [] X.env := by rfl) (nb : starEach [.Call (.Name "range" p2) [a] [] p3] X.env = (false, eval (.Call (.Name "range" p2) [a] [] p3) X.env) :: starEach [] X.env := by rfl) : EW X g Fr (.Call (.Name "tuple" p1) [.Call (.Name "range" p2) [a] [] p3] [] pos) S R :=
  ew_of (pe_tupRg hc hg1 hm1 (prg_1 hg2 hm2 pe_sem na) nb) fun σ H0 H st => sem_mono (h σ H0 H st) fun v H1 ⟨d, S1, H01, e1, st1, r, n, ed, n0, n1, q⟩ => by
    subst ed
    cases r
    exact ⟨n, rfl, RgOk.of_le (by decide) (by omega) (by decide) n0, fun t ht => PostE.back e1 (doneN st1 ht (fun H2 ex e => .tup e (rgV_D n)) q)⟩
end
end DL

set_option Elab.async false
set_option linter.all false
set_option autoImplicit false
set_option maxRecDepth 100000
set_option maxHeartbeats 4000000
/-! The data layer, twenty-first part: rows of sums and groups, compared. -/
namespace DL
open PySem PySem.Spec PyProof.Rows L2 PK
/-- a group; groups; a row -/
def encG (g : List Int) : Dt := .tup (g.map Dt.int)
def gsD (gs : List (List Int)) : Dt := .tup (gs.map encG)
def rowG (r : GRow) : Dt := .tup [.int r.1, gsD r.2]
theorem map_inj {α : Type} {f : α → Dt} (h : ∀ a b, f a = f b → a = b) : ∀ {xs ys : List α}, xs.map f = ys.map f → xs = ys
  | [], [], _ => rfl
  | [], _ :: _, e => by simp at e
  | _ :: _, [], e => by simp at e
  | a :: x, b :: y, e => by
    simp only [List.map_cons, List.cons.injEq] at e
    rw [h a b e.1, map_inj h e.2]
theorem encG_inj {a b : List Int} (h : encG a = encG b) : a = b := by
  unfold encG at h
  exact map_inj (f := Dt.int) (fun a b e => by cases e; rfl) (by simpa using h)
theorem gsD_inj {a b : List (List Int)} (h : gsD a = gsD b) : a = b := by
  unfold gsD at h
  exact map_inj (f := encG) (fun _ _ => encG_inj) (by simpa using h)
theorem rowG_inj {a b : GRow} (h : rowG a = rowG b) : a = b := by
  unfold rowG at h
  simp only [Dt.tup.injEq, List.cons.injEq, Dt.int.injEq, and_true] at h
  exact Prod.ext h.1 (gsD_inj h.2)
theorem nb_encG (g : List Int) : noBool (encG g) = true := (eqTup g).nb
theorem nb_gsD (gs : List (List Int)) : noBool (gsD gs) = true := by unfold gsD; simp only [noBool]; exact noBoolL_map nb_encG gs
theorem nb_rowG (r : GRow) : noBool (rowG r) = true := by unfold rowG; simp only [noBool, noBoolL, nb_gsD, Bool.and_true]
theorem dep_encG (g : List Int) : depD (encG g) ≤ 1 := by
  have := depL_map (f := Dt.int) (n := 0) (fun _ => Nat.le_refl 0) g
  unfold encG; simp only [depD]; omega
theorem dep_gsD (gs : List (List Int)) : depD (gsD gs) ≤ 2 := by
  have := depL_map (f := encG) (n := 1) dep_encG gs
  unfold gsD; simp only [depD]; omega
theorem dep_rowG (r : GRow) : depD (rowG r) ≤ 3 := by
  have := dep_gsD r.2
  unfold rowG; simp only [depD, depL]; omega
theorem EqOk.encG (g : List Int) : EqOk (DL.encG g) := ⟨nb_encG g, Nat.le_trans (dep_encG g) (by decide)⟩
theorem EqOk.gsD (gs : List (List Int)) : EqOk (DL.gsD gs) := ⟨nb_gsD gs, Nat.le_trans (dep_gsD gs) (by decide)⟩
theorem EqOk.rowG (r : GRow) : EqOk (DL.rowG r) := ⟨nb_rowG r, Nat.le_trans (dep_rowG r) (by decide)⟩
/-- lists, item by item -/
structure Cmp {α : Type} (enc : α → Dt) (lt : α → α → Bool) : Prop where
  al : ∀ a b, PySem.W.alike (toPy (enc a)) (toPy (enc b)) = true
  nb : ∀ a, noBool (enc a) = true
  inj : ∀ a b, enc a = enc b → a = b
  lt : ∀ a b, ltD (enc a) (enc b) = lt a b
theorem Cmp.alAll {α : Type} {enc : α → Dt} {lt : α → α → Bool} (c : Cmp enc lt) : ∀ xs ys : List α, PySem.W.alikeAll (toPyL (xs.map enc)) (toPyL (ys.map enc)) = true
  | [], ys => by simp [toPyL, PySem.W.alikeAll]
  | a :: x, [] => by simp [toPyL, PySem.W.alikeAll]
  | a :: x, b :: y => by simp only [List.map_cons, toPyL, PySem.W.alikeAll, Bool.and_eq_true]; exact ⟨c.al a b, c.alAll x y⟩
theorem Cmp.lex {α : Type} [DecidableEq α] {enc : α → Dt} {lt : α → α → Bool} (c : Cmp enc lt) : ∀ xs ys : List α, PyProof.Rows.lexLt itemOrd (PySem.W.keyToksAll (toPyL (xs.map enc))) (PySem.W.keyToksAll (toPyL (ys.map enc))) = lexB lt xs ys
  | [], [] => by simp only [List.map_nil, toPyL, lexB]; exact lex_irrefl (O := itemOrd) _
  | [], b :: y => by
    simp only [List.map_nil, List.map_cons, toPyL, lexB, PySem.W.keyToksAll]
    rw [lex_diff (O := itemOrd) (by simp)]; rfl
  | a :: x, [] => by
    simp only [List.map_nil, List.map_cons, toPyL, lexB, PySem.W.keyToksAll]
    rw [lex_diff (O := itemOrd) (by simp)]; rfl
  | a :: x, b :: y => by
    simp only [List.map_cons, toPyL, lexB]
    have ei := eqv_iff (enc a) (enc b) (c.nb a) (c.nb b)
    by_cases e : a = b
    · subst e
      rw [if_pos rfl, PySem.W.dataLt_all_yes (c.al a a) (ei.mpr rfl)]
      exact c.lex x y
    · have ne : PyData.eqv (toPy (enc a)) (toPy (enc b)) = false := by
        cases z : PyData.eqv (toPy (enc a)) (toPy (enc b)) with
        | false => rfl
        | true => exact absurd (c.inj _ _ (ei.mp z)) e
      rw [if_neg e, PySem.W.dataLt_all_no (c.al a b) ne]
      exact c.lt a b
theorem Cmp.tup {α : Type} [DecidableEq α] {enc : α → Dt} {lt : α → α → Bool} (c : Cmp enc lt) : Cmp (fun xs : List α => Dt.tup (xs.map enc)) (lexB lt) where
  al a b := by simp only [toPy, PySem.W.alike]; exact c.alAll a b
  nb a := by simp only [noBool]; exact noBoolL_map c.nb a
  inj a b h := map_inj c.inj (by simpa using h)
  lt a b := by
    unfold ltD
    simp only [toPy]
    rw [PySem.W.dataLt_tuple]
    exact c.lex a b
theorem cmpInt : Cmp Dt.int ltInt := ⟨fun a b => by simp [toPy, PySem.W.alike], fun a => rfl, fun a b h => by cases h; rfl, fun a b => ltD_int a b⟩
theorem cmpG : Cmp gsD ltG := cmpInt.tup.tup
theorem alike_rowG (a b : GRow) : PySem.W.alike (toPy (rowG a)) (toPy (rowG b)) = true := by
  unfold rowG
  simp only [toPy, toPyL, PySem.W.alike, PySem.W.alikeAll, Bool.and_true, Bool.true_and]
  exact cmpG.al a.2 b.2
theorem ltD_rowG (a b : GRow) : ltD (rowG a) (rowG b) = ltR a b := by
  unfold ltD rowG
  simp only [toPy, toPyL]
  rw [PySem.W.dataLt_tuple]
  unfold ltR
  by_cases e : a.1 = b.1
  · rw [if_pos e, PySem.W.dataLt_all_yes (by simp [PySem.W.alike]) (by simp [PyData.eqv, e])]
    by_cases e2 : a.2 = b.2
    · rw [e2, PySem.W.dataLt_all_yes (cmpG.al _ _) ((eqv_iff _ _ (nb_gsD _) (nb_gsD _)).mpr rfl), ltG_ord.irr]
      exact lex_irrefl (O := itemOrd) _
    · have ne : PyData.eqv (toPy (gsD a.2)) (toPy (gsD b.2)) = false := by
        cases z : PyData.eqv (toPy (gsD a.2)) (toPy (gsD b.2)) with
        | false => rfl
        | true => exact absurd (gsD_inj ((eqv_iff _ _ (nb_gsD _) (nb_gsD _)).mp z)) e2
      rw [PySem.W.dataLt_all_no (cmpG.al _ _) ne]
      exact cmpG.lt _ _
  · rw [if_neg e, PySem.W.dataLt_all_no (by simp [PySem.W.alike]) (by simp [PyData.eqv, e]), PySem.W.dataLt_int]
theorem alk_rows (l : List GRow) : AlkD (l.map rowG) := by
  refine ⟨fun x hx y hy => ?_, fun x hx => ?_, ?_, Nat.le_trans (depL_map (f := rowG) (n := 3) dep_rowG l) (by decide)⟩
  · obtain ⟨a, _, rfl⟩ := List.mem_map.mp hx
    obtain ⟨b, _, rfl⟩ := List.mem_map.mp hy
    exact alike_rowG a b
  · obtain ⟨a, _, rfl⟩ := List.mem_map.mp hx
    simp [rowG, toPy]
  · exact noBoolL_plain _ (noBoolL_map nb_rowG l)
section
variable {X : Cx} {g : Cl} {Fr : Hp} {S : List Slot} {R : Dt → List Slot → Prop}
theorem cw_minR {l : List GRow} (hc : X.calm = true) (hu : X.A.units + 64 < cLine) (hne : l ≠ []) (h : ∀ m ∈ l, (∀ y ∈ l, ltR y m = false) → R (rowG m) S) : CW X g Fr (.builtin "min") [.im (.lst (l.map rowG))] S R := by
  refine cw_minD hc hu (by simpa using hne) (alk_rows l) fun d hd hx => ?_
  obtain ⟨m, hm, rfl⟩ := List.mem_map.mp hd
  exact h m hm fun y hy => by rw [← ltD_rowG]; exact hx _ (List.mem_map_of_mem hy)
theorem cw_minRO {p : Addr} {l : List GRow} (hc : X.calm = true) (hu : X.A.units + 64 < cLine) (hne : l ≠ []) (h : ∀ m ∈ l, (∀ y ∈ l, ltR y m = false) → R (rowG m) S) : CW X g Fr (.builtin "min") [.own p (.lst (l.map rowG))] S R := by
  refine cw_minO hc hu (by simpa using hne) (alk_rows l) fun d hd hx => ?_
  obtain ⟨m, hm, rfl⟩ := List.mem_map.mp hd
  exact h m hm fun y hy => by rw [← ltD_rowG]; exact hx _ (List.mem_map_of_mem hy)
end
end DL

set_option Elab.async false
set_option linter.all false
set_option autoImplicit false
set_option maxRecDepth 100000
set_option maxHeartbeats 4000000
/-! The data layer, twenty-second part: a call without arguments. -/
namespace DL
open PySem PySem.Spec PyProof.Rows L2 PK
section
variable {X : Cx} {g : Cl} {Fr : Hp} {S : List Slot} {R : Dt → List Slot → Prop} {T : Slot → List Slot → Prop} {F : FM} {k : Nat} {pos : Pos}
theorem pe_callR0 {sp : Sp} {f : Addr} {x : Str} {p : Pos} (G : FnR X.prog X.w X.K X.mg X.base CX0 k f sp) (hr : Room k X.A) (hm : X.mg x = some (.ref f)) (hk : PySem.W.keepIn X.K (.ref f) = true) (hg : Gl X x := by rfl) (hdb : (x == ("__debug__" : Str)) = false := by decide) : PE X (.Call (.Name x p) [] [] pos) (fun σ H Q => sp [] H Q E0) := by
  refine ⟨fun pins s σ H Q I h => ?_⟩
  refine wpAny_Call_Name_kw (ld_glob I hg hm ?_ hdb)
  refine PySem.W.callWith_K0 I.kIn hk ?_
  exact wpAny_call (run_fnR G hr pass0 I .nil h)
theorem ef_call0 {x : Str} {p : Pos} (G : FnD X.prog X.w X.K X.mg X.base g k x F) (hr : Room k X.A) (h : F [] fun r => T r S) (hg : Gl X x := by rfl) (hdb : (x == ("__debug__" : Str)) = false := by decide) : EF X g Fr (.Call (.Name x p) [] [] pos) S T := by
  obtain ⟨f, hm, hk, Gf⟩ := G.ex
  exact fun σ H0 H st => sem_of (pe_callR0 Gf hr hm hk hg hdb) (call_post (T := T) G.mono st .nil List.nodup_nil h)
end
end DL

set_option Elab.async false
set_option linter.all false
set_option autoImplicit false
set_option maxRecDepth 100000
set_option maxHeartbeats 2000000
/-! The data layer, twenty-third part: sorted(..) of a list, of a tuple, of data. -/
namespace DL
open PySem PySem.Spec PyProof.Rows L2 PK
section
variable {P : Program} {w : World} {A : Around} {E : Value → Shared → Prop} {s : Shared}
/-- a tuple's items taken out -/
theorem tup_out {a : Addr} {vs : List Value} {Q : List Value → Shared → Prop} (ht : s.heap.IsTuple a vs.toArray) (few : vs.length ≤ sizeLine)
    (q : Q vs { s with heap := (s.heap.push (seqObj "list" #[] 0)).update s.heap.objs.size (Obj.mapSeq (· ++ vs.toArray)) }) : wpAny (model P w) A (collect (.ref a)) Q E s := by
  obtain ⟨o, ho, hc, n, hd⟩ := id ht
  have h1 : (s.heap.push (seqObj "list" #[] 0)).get? a = some o := Heap.get?_push_of_some _ ho
  have h2 : (s.heap.push (seqObj "list" #[] 0)).get? s.heap.objs.size = some (seqObj "list" #[] 0) := Heap.get?_push_size _ rfl
  unfold collect
  refine wpAny_bind (wpAny_runValue (codeAny_builtin entry_proto_collect' ?_)); show wpAny _ _ (do again (.builtin "list.__iadd__" ⟨[← newList [], .ref a], []⟩)) _ _ s
  refine wpAny_bind (wpAny_newList (wpAny_pure ⟨Code.quiet_builtin _ (by decide +kernel), codeAny_builtin entry_list_iadd' ?_⟩)); show wpAny _ _ (Builtin.List.listExtendWith (.ref s.heap.objs.size) (.ref a) (.ref s.heap.objs.size)) _ _ { s with heap := s.heap.push (seqObj "list" #[] 0) }
  unfold Builtin.List.listExtendWith
  refine wpAny_bind (wpAny_typeOf (T := "tuple") ⟨o, h1, hc⟩ ?_)
  have et : (Value.type "tuple" == Value.type "tuple") = true := by decide
  rw [if_pos (by rw [et, Bool.or_true])]
  refine wpAny_bind (listItems_at h1 hd ?_)
  refine wpAny_bind (listItems_at (xs := #[]) (n := 0) h2 rfl ?_)
  rw [if_neg (by simp)]
  refine wpAny_bind (listUpdate_at (xs := #[]) (n := 0) h2 rfl ?_ (Nat.zero_le _) (by show (#[] ++ vs.toArray).size ≤ sizeLine + 1; rw [Array.size_append, List.size_toArray]; show 0 + vs.length ≤ _; omega)); refine wpAny_pure ?_
  show wpAny (model P w) A (do let o ← load s.heap.objs.size
                               match o.data with | .seq xs _ => pure xs.toList | _ => unsupported "internal:collect") Q E { s with heap := (s.heap.push (seqObj "list" #[] 0)).update s.heap.objs.size (Obj.mapSeq (· ++ vs.toArray)) }
  refine wpAny_bind (wpAny_load (get?_update_seq h2 _) ?_); show wpAny _ _ (pure ((#[] : Array Value) ++ vs.toArray).toList) Q E _
  rw [show ((#[] : Array Value) ++ vs.toArray).toList = vs by simp]
  exact wpAny_pure q
/-- sorted(t): as sorted of a list of its items -/
theorem sort_tup {a : Addr} {vs : List Value} {Q : Value → Shared → Prop} (ht : s.heap.IsTuple a vs.toArray) (few : vs.length ≤ sizeLine)
    (body : ∀ E' : Value → Shared → Prop, wpAny (model P w) A.in1.in1 (Builtin.«list.sort» ⟨[.ref (s.heap.objs.size + 1)], []⟩) (fun f z => f = .done (.ret .none) ∧ Q (.ref (s.heap.objs.size + 1)) z) E' { s with heap := PySem.W.copyHeap s.heap vs }) :
    wpAny (model P w) A (call (.builtin "sorted") [.ref a]) Q E s := by
  have e1 : ((s.heap.push (seqObj "list" #[] 0)).update s.heap.objs.size (Obj.mapSeq (· ++ vs.toArray))).objs.size = s.heap.objs.size + 1 := by rw [Heap.size_update]; exact size_push' ..
  refine call_function_entry_kw kind_sorted plain_sorted entry_sorted (args_sorted1 _) ?_
  unfold Builtin.«sorted»
  refine wpAny_bind (m := checkCount "sorted" 1 1 _) (wpAny_pure (wpAny_bind (tup_out ht few (wpAny_bind (wpAny_newList ?_ few)))))
  show wpAny _ _ _ _ _ { s with heap := PySem.W.copyHeap s.heap vs }
  rw [e1]
  refine wpAny_bind (wpAny_holding (wpAny_call_entry_kw slot_list_sort ⟨_, PySem.W.copyHeap_at s.heap vs, rfl⟩ entry_list_sort ?_ (args_list_sort _)))
  show wpAny (model P w) A.in1.in1 (Builtin.«list.sort» ⟨[.ref (s.heap.objs.size + 1)], []⟩) _ _ _
  exact wpAny_mono (body _) (fun f z ⟨hf, hq⟩ => hf ▸ ⟨_, rfl, wpAny_pure ⟨_, rfl, hq⟩⟩) fun _ _ e => e
/-- data ordered -/
theorem le_total (a b : PyData) : (!PySem.W.dataLt b a || !PySem.W.dataLt a b) = true := by
  cases h : PySem.W.dataLt b a with
  | false => rfl
  | true =>
    cases k : PySem.W.dataLt a b with
    | false => rfl
    | true =>
      have := lex_trans (O := itemOrd) _ _ _ h k
      rw [lex_irrefl] at this
      cases this
theorem le_trans' {a b c : PyData} (h : (!PySem.W.dataLt b a) = true) (k : (!PySem.W.dataLt c b) = true) : (!PySem.W.dataLt c a) = true := by
  cases e : PySem.W.dataLt c a with
  | false => rfl
  | true =>
    rcases lex_negTrans (O := itemOrd) _ (PySem.W.keyToks b) _ e with q | q
    · rw [show PySem.W.dataLt c b = true from q] at k; cases k
    · rw [show PySem.W.dataLt b a = true from q] at h; cases h
end
/-- sorted(xs), xs of data told beside its values -/
def rSortD (K : PySem.W.Frag) : List V → Hp → VK → Prop := fun vs H Q => ∃ (a : Addr) (bs : List (V × Dt)), vs = [V.ref a] ∧ (SqL K H a (bs.map (·.1)) ∨ SqT K H a (bs.map (·.1))) ∧ DpAll K H (bs.map (·.1)) (bs.map fun b => toPy b.2) ∧ PySem.W.AllAlike (bs.map fun b => toPy b.2) ∧ PySem.W.Sortable (bs.map fun b => toPy b.2) ∧ (∀ b ∈ bs, depD b.2 ≤ 60) ∧
  ∀ (zs : List (V × Dt)) (p : Addr), zs.Perm bs → zs.Pairwise (fun x y => ltD y.2 x.2 = false) → H p = none → Q (.ref p) (upd H p (.lst (zs.map (·.1))))
section
variable {X : Cx}
theorem vals_each : ∀ {zs : List (V × Dt)} {out : List Value}, PySem.W.EachIs (fun v (b : V × Dt) => RelV b.1 v) out zs → Vals (zs.map (·.1)) out
  | [], _, h => by cases h; exact .nil
  | _ :: _, _, h => by
    cases h with
    | cons r t => exact .cons r (vals_each t)
theorem each_vals : ∀ {bs : List (V × Dt)} {us : List Value}, Vals (bs.map (·.1)) us → PySem.W.EachIs (fun v (b : V × Dt) => RelV b.1 v) us bs
  | [], _, h => by cases h; exact .nil
  | _ :: _, _, h => by
    cases h with
    | cons r t => exact .cons r (each_vals t)
theorem cr_sortD (hu : X.A.units + 66 < cLine) : CallR X (.builtin "sorted") (rSortD X.K) := by
  intro pins s σ H vs us Q I r h
  obtain ⟨a, bs, rfl, hs, hd, al, so, dp, q⟩ := h
  rw [Vals.ref1 r]
  have fin : ∀ its : List Value, Vals (bs.map (·.1)) its → (bs.map (·.1)).length ≤ sizeLine → ∀ out : List Value, PySem.W.EachIs (fun v (b : V × Dt) => RelV b.1 v) out (bs.mergeSort (PySem.W.dataLe false fun b => toPy b.2)) →
      EP X pins σ Q (.ref (s.heap.objs.size + 1)) { s with heap := sortedAll s.heap its (List.toArray out) } := fun its rv hz out eo => by
    obtain ⟨ep, he'⟩ := sortedAll_at s.heap its out.toArray
    have pm : (bs.mergeSort (PySem.W.dataLe false fun b => toPy b.2)).Perm bs := List.mergeSort_perm _ _
    have le : ((bs.mergeSort (PySem.W.dataLe false fun b => toPy b.2)).map (·.1)).length ≤ sizeLine := by
      rw [List.length_map, pm.length_eq]; rw [List.length_map] at hz; exact hz
    have so := List.pairwise_mergeSort (le := PySem.W.dataLe false fun b : V × Dt => toPy b.2) (fun x y z h k => by rw [PySem.W.dataLe_eq] at *; exact le_trans' h k) (fun x y => by rw [PySem.W.dataLe_eq]; exact le_total _ _) bs
    refine ⟨.ref _, upd H (s.heap.objs.size + 1) (.lst ((bs.mergeSort (PySem.W.dataLe false fun b => toPy b.2)).map (·.1))), I.laid (t' := s.toks) (fun _ _ => sortedAll_old) (Nat.le_succ _) ⟨le, out, ep, vals_each eo, he'⟩, rfl, q _ _ pm (so.imp fun {x y} h => ?_) (I.hok.fresh (Nat.le_succ _))⟩
    rw [PySem.W.dataLe_eq] at h
    have h : (!ltD y.2 x.2) = true := h
    simpa using h
  have go : ∀ its : List Value, Vals (bs.map (·.1)) its → ∃ er : PySem.W.EachIs (fun v (b : V × Dt) => ∃ as, Reads s.heap v (toPy b.2) as) its bs, True := fun its rv => by
    obtain ⟨as, rA⟩ := Dp.readsAll I _ _ its hd rv
    exact ⟨PySem.W.readsAll_each (fun b : V × Dt => toPy b.2) rA, trivial⟩
  rcases hs with hs | hs
  · obtain ⟨its, rv, hl, hz⟩ := I.list hs
    obtain ⟨er, _⟩ := go its rv
    refine PySem.W.sorted_data hl.isList (each_vals rv) er al so (by rw [List.length_map] at hz; exact hz) (fun b hb => by rw [dep_py]; have := dp b hb; omega) fun out _ eo => fin its rv hz out eo
  · obtain ⟨its, rv, hl, hz⟩ := I.tuple hs
    obtain ⟨er, _⟩ := go its rv
    have lb : its.length ≤ sizeLine := by rw [← rv.length]; exact hz
    have er' : PySem.W.EachIs (fun v (b : V × Dt) => ∃ as, Reads (PySem.W.sortingHeap (PySem.W.copyHeap s.heap its) (s.heap.objs.size + 1) its) v (toPy b.2) as) its bs := er.mono fun _ _ ⟨as, r⟩ => ⟨as, Reads.keeps (fun _ _ => PySem.W.sorting_copy_old) r⟩
    have S := PySem.W.SortsAt.data (prog := X.prog) (w := X.w) (A := X.A.in1.in1) (s := { s with heap := PySem.W.sortingHeap (PySem.W.copyHeap s.heap its) (s.heap.objs.size + 1) its }) (PySem.W.each_map (R := fun v d => ∃ as, Reads (PySem.W.sortingHeap (PySem.W.copyHeap s.heap its) (s.heap.objs.size + 1) its) v d as) (fun b : V × Dt => toPy b.2) er') al so (PySem.W.bound_map fun b hb => by rw [dep_py]; have := dp b hb; show X.A.units + 2 + _ < _; omega)
    refine sort_tup hl lb fun E' => PySem.W.list_sort_vals (s := { s with heap := PySem.W.copyHeap s.heap its }) (PySem.W.copyHeap_at s.heap its) S lb ⟨rfl, fin its rv hz _ (PySem.W.sortVals_data false (each_vals rv) er' al)⟩
end
section
variable {X : Cx} {g : Cl} {Fr : Hp} {S : List Slot} {R : Dt → List Slot → Prop} {pos : Pos}
theorem zipV : ∀ {vs : List V} {ds : List Dt}, vs.length = ds.length → (vs.zip ds).map (·.1) = vs ∧ (vs.zip ds).map (·.2) = ds
  | [], [], _ => ⟨rfl, rfl⟩
  | [], _ :: _, h => by simp at h
  | _ :: _, [], h => by simp at h
  | v :: vs, d :: ds, h => by
    obtain ⟨a, b⟩ := zipV (vs := vs) (ds := ds) (by simpa using h)
    simp only [List.zip_cons_cons, List.map_cons, a, b, and_self]
theorem RepL.of_zip {K : PySem.W.Frag} {H : Hp} : ∀ {zs : List (V × Dt)}, (∀ z ∈ zs, Rep K g H z.1 z.2) → RepL K g H (zs.map (·.1)) (zs.map (·.2))
  | [], _ => .nil
  | z :: zs, h => .cons (h z List.mem_cons_self) (RepL.of_zip fun x hx => h x (List.mem_cons_of_mem _ hx))
theorem RepL.zip_mem {K : PySem.W.Frag} {H : Hp} : ∀ {vs : List V} {ds : List Dt}, RepL K g H vs ds → ∀ z ∈ vs.zip ds, Rep K g H z.1 z.2
  | _, _, .nil, z, h => by simp at h
  | _, _, .cons r t, z, h => by
    rcases List.mem_cons.mp h with e | e
    · rw [e]; exact r
    · exact RepL.zip_mem t z e
theorem toPyL_map : ∀ ds : List Dt, toPyL ds = ds.map toPy
  | [] => rfl
  | d :: r => congrArg (toPy d :: ·) (toPyL_map r)
theorem depD_le : ∀ {ds : List Dt} {d : Dt}, d ∈ ds → depD d ≤ depL ds
  | x :: r, d, h => by
    unfold depL
    rcases List.mem_cons.mp h with e | e
    · rw [e]; exact Nat.le_max_left _ _
    · exact Nat.le_trans (depD_le e) (Nat.le_max_right _ _)
/-- sorted(..) of a list or a tuple of data: the same items, ascending -/
theorem cw_sorted {d : Dt} {xs : List Dt} (hu : X.A.units + 66 < cLine) (hx : itemsOf d = some xs) (al : AlkD xs) (so : (∀ x ∈ xs, ∃ y r, x = .tup (y :: r)) ∨ ∀ x ∈ xs, ∀ r, x ≠ .tup r) (h : ∀ ys : List Dt, ys.Perm xs → ys.Pairwise (fun x y => ltD y x = false) → R (.lst ys) S) : CW X g Fr (.builtin "sorted") [.im d] S R :=
  cw_of (cr_sortD hu) fun σ H0 H vs st ra => by
    obtain ⟨v, rfl, r⟩ := arg1 ra
    obtain ⟨a, vs, rfl, hl, rl⟩ := items_rep r hx
    have r := rl.mono st.ex
    obtain ⟨z1, z2⟩ := zipV rl.length
    have ep : (vs.zip xs).map (fun b => toPy b.2) = toPyL xs := by rw [toPyL_map, ← z2, List.map_map, z2]; rfl
    refine ⟨a, vs.zip xs, rfl, ?_, ?_, ?_, ?_, fun b hb => ?_, fun zs p pm sd hp => ?_⟩
    · rw [z1]
      rcases hl with e | e
      · exact .inl (sq_of (st.ex _ _ e))
      · exact .inr (st_of (st.ex _ _ e))
    · rw [z1, ep]
      exact repL_dp al.pl r
    · rw [ep]
      intro x hx y hy
      obtain ⟨x', m1, rfl⟩ := toPyL_mem hx
      obtain ⟨y', m2, rfl⟩ := toPyL_mem hy
      exact al.al x' m1 y' m2
    · rw [ep]
      rcases so with so | so
      · left
        intro x hx
        obtain ⟨x', m1, rfl⟩ := toPyL_mem hx
        obtain ⟨y, t, e⟩ := so x' m1
        rw [e]
        exact ⟨toPy y, toPyL t, rfl⟩
      · right
        intro x hx
        obtain ⟨x', m1, rfl⟩ := toPyL_mem hx
        refine ⟨al.nn x' m1, fun t e => ?_⟩
        cases x' with
        | tup l => exact so _ m1 l rfl
        | _ => simp [toPy] at e
    · have m : b.2 ∈ xs := by
        have := List.mem_map_of_mem (f := (·.2)) hb
        rw [z2] at this
        exact this
      exact Nat.le_trans (depD_le m) al.dp
    · have pm2 : (zs.map (·.2)).Perm xs := by have := pm.map (·.2); rwa [z2] at this
      have rz : RepL X.K g H0 (zs.map (·.1)) (zs.map (·.2)) := RepL.of_zip fun z hz => RepL.zip_mem rl z (pm.mem_iff.mp hz)
      exact doneN st hp (fun H1 e h1 => .lst h1 (rz.mono e)) (h _ pm2 (List.pairwise_map.mpr sd))
end
end DL

set_option Elab.async false
set_option linter.all false
set_option autoImplicit false
set_option maxRecDepth 100000
set_option maxHeartbeats 2000000
/-! The data layer, twenty-fourth part: new objects side by side; pop; a list of one's own in a test. -/
namespace DL
open PySem PySem.Spec PyProof.Rows L2 PK
section
variable {K : PySem.W.Frag} {g : Cl} {Fr Fr' H0 H0' H H' : Hp} {σ σ' τ : L2.St} {S S' : List Slot} {v : V} {r : Slot} {rs : List Slot}
theorem StR.remap (st : StR K g Fr H0 H σ S) (len : σ'.length = S'.length) (sl : ∀ (i : Nat) (s : Slot), S'[i]? = some s → SlR K g H0 H (σ'[i]?) s) (nd : (S'.flatMap Slot.fp).Nodup) (sub : ∀ a ∈ S'.flatMap Slot.fp, a ∈ S.flatMap Slot.fp) : StR K g Fr H0 H σ' S' :=
  ⟨st.ex, st.fr, st.dis, len, sl, nd, fun a ha => st.free a (sub a ha)⟩
/-- what the last slot holds stands for itself a while -/
def frS (Fr H : Hp) (r : Slot) : Hp := fun a => if a ∈ r.fp then H a else Fr a
theorem StR.aside (st : StR K g Fr H0 H (σ ++ [some v]) (S ++ [r])) : StR K g (frS Fr H r) H0 H σ S := by
  have nd := st.nd
  rw [List.flatMap_append] at nd
  obtain ⟨n1, n2, n3⟩ := List.nodup_append.mp nd
  have rf : ∀ a ∈ r.fp, a ∈ (S ++ [r]).flatMap Slot.fp := fun a ha => List.mem_flatMap.mpr ⟨r, by simp, ha⟩
  have st0 := st.unsnoc
  refine ⟨st.ex, fun a o h => ?_, fun a o h => ?_, st0.len, st0.sl, st0.nd, fun a ha => ⟨(st0.free a ha).1, ?_⟩⟩
  · unfold frS at h
    split at h
    · exact h
    · exact st.fr a o h
  · unfold frS at h
    split at h
    · rename_i m; exact (st.free a (rf a m)).1
    · exact st.dis a o h
  · unfold frS
    rw [if_neg (fun m => n3 a ha a (by simpa using m) rfl)]
    exact (st0.free a ha).2
/-- .. and comes back to its place -/
theorem StR.back (st : StR K g Fr H0 H (σ ++ [some v]) (S ++ [r])) (e : Ex H0 H0') (hl : σ.length = S'.length) (st' : StR K g (frS Fr H r) H0' H' (σ ++ τ) (S' ++ rs)) : StR K g Fr H0' H' (σ ++ some v :: τ) (S' ++ r :: rs) := by
  have hl0 : σ.length = S.length := by have := st.len; simpa using this
  have rf : ∀ a ∈ r.fp, a ∈ (S ++ [r]).flatMap Slot.fp := fun a ha => List.mem_flatMap.mpr ⟨r, by simp, ha⟩
  have sv : SlR K g H0 H (some (some v)) r := by
    have := st.sl S.length r (by simp)
    rwa [List.getElem?_append_right (by omega), show S.length - σ.length = 0 by omega] at this
  have some_r : ∀ a ∈ r.fp, ∃ u, H a = some u := fun a ha => by
    cases r with
    | no => simp [Slot.fp] at ha
    | im d => simp [Slot.fp] at ha
    | own p o => exact sv.2.some_of ha
  have hf : ∀ a ∈ r.fp, ∀ u, H a = some u → frS Fr H r a = some u := fun a ha u hu => by unfold frS; rw [if_pos ha]; exact hu
  have sv' : SlR K g H0' H' (some (some v)) r := sv.keep e fun a ha u hu => st'.fr a u (hf a ha u hu)
  have exF : Ex Fr (frS Fr H r) := fun a o h => by
    unfold frS
    rw [if_neg (fun m => by have := (st.free a (rf a m)).2; rw [h] at this; cases this)]
    exact h
  have nin : ∀ a ∈ r.fp, a ∉ (S' ++ rs).flatMap Slot.fp := fun a ha hm => by
    obtain ⟨u, hu⟩ := some_r a ha
    have := (st'.free a hm).2
    rw [hf a ha u hu] at this
    cases this
  have nd := st.nd
  rw [List.flatMap_append] at nd
  have rn : r.fp.Nodup := by simpa using (List.nodup_append.mp nd).2.1
  have efp : (S' ++ r :: rs).flatMap Slot.fp = S'.flatMap Slot.fp ++ (r.fp ++ rs.flatMap Slot.fp) := by rw [List.flatMap_append, List.flatMap_cons]
  have nd' := st'.nd
  rw [List.flatMap_append] at nd' nin
  refine ⟨st'.ex, exF.trans st'.fr, fun a o h => st'.dis a o (exF a o h), by have := st'.len; simp only [List.length_append, List.length_cons] at this ⊢; omega, fun i s h => ?_, ?_, fun a ha => ?_⟩
  · by_cases c : i < S'.length
    · rw [List.getElem?_append_left c] at h
      have := st'.sl i s (by rw [List.getElem?_append_left c]; exact h)
      rwa [List.getElem?_append_left (by omega)] at this ⊢
    · rw [List.getElem?_append_right (by omega)] at h ⊢
      rw [hl]
      cases q : i - S'.length with
      | zero =>
        rw [q] at h
        simp only [List.getElem?_cons_zero, Option.some.injEq] at h ⊢
        subst h; exact sv'
      | succ n =>
        rw [q] at h
        simp only [List.getElem?_cons_succ] at h ⊢
        have := st'.sl (S'.length + n) s (by rw [List.getElem?_append_right (by omega), show S'.length + n - S'.length = n by omega]; exact h)
        rwa [List.getElem?_append_right (by omega), hl, show S'.length + n - S'.length = n by omega] at this
  · rw [efp]
    obtain ⟨m1, m2, m3⟩ := List.nodup_append.mp nd'
    refine List.nodup_append.mpr ⟨m1, List.nodup_append.mpr ⟨rn, m2, fun a ha b hb e => nin a ha (e ▸ List.mem_append_right _ hb)⟩, fun a ha b hb e => ?_⟩
    rcases List.mem_append.mp hb with hb | hb
    · exact nin b hb (e ▸ List.mem_append_left _ ha)
    · exact m3 a ha b hb e
  · rw [efp] at ha
    have free' : ∀ a ∈ S'.flatMap Slot.fp ++ rs.flatMap Slot.fp, H0' a = none ∧ frS Fr H r a = none := fun a ha => st'.free a (by rw [List.flatMap_append]; exact ha)
    have frn : ∀ a, frS Fr H r a = none → Fr a = none := fun a h => exF.free h
    rcases List.mem_append.mp ha with h | h
    · have := free' a (List.mem_append_left _ h); exact ⟨this.1, frn a this.2⟩
    · rcases List.mem_append.mp h with h | h
      · obtain ⟨u, hu⟩ := some_r a h
        exact ⟨st'.dis a u (hf a h u hu), (st.free a (rf a h)).2⟩
      · have := free' a (List.mem_append_right _ h); exact ⟨this.1, frn a this.2⟩
theorem nodup_set {Z : List Addr} : ∀ {S : List Slot} {i : Nat}, (S.flatMap Slot.fp ++ (r.fp ++ Z)).Nodup → ((S.set i r).flatMap Slot.fp ++ Z).Nodup
  | [], i, h => by
    rw [List.set_nil]
    exact (List.nodup_append.mp (by simpa using h)).2.1
  | t :: tl, 0, h => by
    rw [List.set_cons_zero, List.flatMap_cons]
    rw [List.flatMap_cons, List.append_assoc] at h
    have h1 := (List.nodup_append.mp h).2.1
    have pm : (r.fp ++ tl.flatMap Slot.fp ++ Z).Perm (tl.flatMap Slot.fp ++ (r.fp ++ Z)) := by
      rw [← List.append_assoc]
      exact List.Perm.append_right Z List.perm_append_comm
    exact pm.nodup_iff.mpr h1
  | t :: tl, i + 1, h => by
    rw [List.set_cons_succ, List.flatMap_cons, List.append_assoc]
    rw [List.flatMap_cons, List.append_assoc] at h
    obtain ⟨h1, h2, h3⟩ := List.nodup_append.mp h
    refine List.nodup_append.mpr ⟨h1, nodup_set h2, fun a ha b hb e => ?_⟩
    rcases List.mem_append.mp hb with hb | hb
    · obtain ⟨u, hu, m⟩ := List.mem_flatMap.mp hb
      rcases List.mem_or_eq_of_mem_set hu with q | q
      · exact h3 a ha b (List.mem_append_left _ (mem_fp q m)) e
      · subst q; exact h3 a ha b (List.mem_append_right _ (List.mem_append_left _ m)) e
    · exact h3 a ha b (List.mem_append_right _ (List.mem_append_right _ hb)) e
/-- the first of the joined slots taken over by a name -/
theorem StR.takeX {i : Nat} (st : StR K g Fr H0 H (σ ++ some v :: τ) (S ++ r :: rs)) (hl : σ.length = S.length) (hi : i < S.length) : StR K g Fr H0 H (σ.set i (some v) ++ τ) (S.set i r ++ rs) := by
  have lt := st.len
  simp only [List.length_append, List.length_cons] at lt
  refine st.remap (by simp only [List.length_append, List.length_set]; omega) (fun j s h => ?_) ?_ fun a ha => ?_
  · by_cases c : j < S.length
    · rw [List.getElem?_append_left (by rw [List.length_set]; exact c)] at h
      rw [List.getElem?_append_left (by rw [List.length_set]; omega)]
      by_cases e : i = j
      · subst e
        rw [List.getElem?_set_self hi] at h
        cases h
        rw [List.getElem?_set_self (by omega)]
        have := st.sl S.length r (by simp)
        rwa [List.getElem?_append_right (by omega), show S.length - σ.length = 0 by omega] at this
      · rw [List.getElem?_set_ne e] at h ⊢
        have := st.sl j s (by rw [List.getElem?_append_left c]; exact h)
        rwa [List.getElem?_append_left (by omega)] at this
    · rw [List.getElem?_append_right (by rw [List.length_set]; omega), List.length_set] at h
      rw [List.getElem?_append_right (by rw [List.length_set]; omega), List.length_set, hl]
      have := st.sl (j + 1) s (by rw [List.getElem?_append_right (by omega), show j + 1 - S.length = (j - S.length) + 1 by omega, List.getElem?_cons_succ]; exact h)
      rwa [List.getElem?_append_right (by omega), hl, show j + 1 - S.length = (j - S.length) + 1 by omega, List.getElem?_cons_succ] at this
  · have nd := st.nd
    rw [List.flatMap_append, List.flatMap_cons] at nd
    rw [List.flatMap_append]
    exact nodup_set nd
  · rw [List.flatMap_append] at ha
    rw [List.flatMap_append, List.flatMap_cons]
    rcases List.mem_append.mp ha with h | h
    · obtain ⟨u, hu, m⟩ := List.mem_flatMap.mp h
      rcases List.mem_or_eq_of_mem_set hu with q | q
      · exact List.mem_append_left _ (mem_fp q m)
      · subst q; exact List.mem_append_right _ (List.mem_append_left _ m)
    · exact List.mem_append_right _ (List.mem_append_right _ h)
end
/-- values side by side, new objects among them -/
def PostX (K : PySem.W.Frag) (g : Cl) (Fr : Hp) (σ : L2.St) (H0 : Hp) (R : List Slot → List Slot → Prop) : List V → Hp → Prop := fun vs H' => ∃ rs S' H0', Ex H0 H0' ∧ σ.length = S'.length ∧ vs.length = rs.length ∧ StR K g Fr H0' H' (σ ++ vs.map some) (S' ++ rs) ∧ R rs S'
def AX (X : Cx) (g : Cl) (Fr : Hp) (es : List Expr) (S : List Slot) (R : List Slot → List Slot → Prop) : Prop := ∀ σ H0 H, StR X.K g Fr H0 H σ S → tSemA X es σ H (PostX X.K g Fr σ H0 R)
section
variable {X : Cx} {g : Cl} {Fr : Hp} {S : List Slot} {R : Dt → List Slot → Prop} {D : DE} {pos : Pos} {A : List Slot → List Slot → Prop}
theorem ax_nil (h : A [] S) : AX X g Fr [] S A := fun σ H0 H st => semA_of pa_nil ⟨[], S, H0, Ex.refl _, st.len, rfl, by simpa using st, h⟩
theorem ax_f {e : Expr} {es : List Expr} (h : EF X g Fr e S fun r S1 => ∀ Fr', AX X g Fr' es S1 fun rs S2 => A (r :: rs) S2) (hs : starEach (e :: es) X.env = (false, eval e X.env) :: starEach es X.env := by rfl) : AX X g Fr (e :: es) S A :=
  fun σ H0 H st => semA_of (pa_cons pe_sem pa_sem hs) (sem_mono (h σ H0 H st) fun v H1 ⟨r, S1, H01, e1, st1, h1⟩ => semA_mono (h1 (frS Fr H1 r) σ H01 H1 st1.aside) fun vs H2 ⟨rs, S2, H02, e2, l1, l2, st2, h2⟩ =>
    ⟨r :: rs, S2, H02, e1.trans e2, l1, congrArg (· + 1) l2, st1.back e2 l1 st2, h2⟩)
theorem ax_im {e : Expr} {es : List Expr} (h : EW X g Fr e S fun d S1 => ∀ Fr', AX X g Fr' es S1 fun rs S2 => A (.im d :: rs) S2) (hs : starEach (e :: es) X.env = (false, eval e X.env) :: starEach es X.env := by rfl) : AX X g Fr (e :: es) S A := ax_f (ef_ew h) hs
def GsX (X : Cx) (g : Cl) (Fr : Hp) (ts : List Expr) (rs : List Slot) (S : List Slot) (T : List Slot → Prop) : Prop := ∀ σ H0 H vs, σ.length = S.length → vs.length = rs.length → StR X.K g Fr H0 H (σ ++ vs.map some) (S ++ rs) → gsSem X ts vs σ H (nxP X.K g Fr H0 T)
theorem gsx_nil {T : List Slot → Prop} (h : T S) : GsX X g Fr [] [] S T := fun σ H0 H vs l1 l2 st => gssem_of pgs_nil (by
  have e : vs = [] := List.eq_nil_of_length_eq_zero l2
  subst e
  exact ⟨rfl, S, H0, Ex.refl _, by simpa using st, h⟩)
theorem gsx_name (i : Nat) {x : Str} {xp : Pos} {es : List Expr} {r : Slot} {rs : List Slot} {T : List Slot → Prop} (hN : X.N.Nodup) (hl : i < S.length) (h : GsX X g Fr es rs (S.set i r) T) (hi : X.N[i]? = some x := by rfl) (hx : Loc X.env.scope x := by first | exact Or.inl rfl | exact Or.inr rfl) (hf : X.fn x = true ∨ X.env.scope.names.lookup x = some .local := by first | exact .inl rfl | exact .inr rfl)
    (hs : (assignEach (.Name x xp :: es) X.env).map (·.2) = assign (.Name x xp) X.env :: (assignEach es X.env).map (·.2) := by rfl) : GsX X g Fr (.Name x xp :: es) (r :: rs) S T :=
  fun σ H0 H vs l1 l2 st => gssem_of (pgs_cons (pg_name hN hi hx hf) pgs_sem hs) (by
    cases vs with
    | nil => simp at l2
    | cons v vs => exact ⟨_, _, rfl, h _ H0 H _ (by simp [l1]) (by simpa using l2) (st.takeX l1 hl)⟩)
/-- a, b, .. = .., .. (a tuple is made) -/
theorem s_tupX {ts es : List Expr} {kt k2 : Nat} {pt pt2 : Pos} (hc : X.calm = true) (h : AX X g Fr es S fun rs S1 => rs.length = es.length ∧ rs.length ≤ 1000 ∧ GsX X g Fr ts rs S1 D.nx) (hn : (assignEach ts X.env).length = es.length := by rfl) (hst : (assignEach ts X.env).findIdx? (·.1) = none := by rfl)
    (hs : swapsWithSole [.Tuple ts kt pt] (.Tuple es k2 pt2) pos.line X.env = pure false := by rfl) (hw : swappedStores [.Tuple ts kt pt] (.Tuple es k2 pt2) X.env = pure none := by rfl) (h1 : (assignEach [.Tuple ts kt pt] X.env).map (·.2) = [assign (.Tuple ts kt pt) X.env] := by rfl) :
    S1 X g Fr (.Assign [.Tuple ts kt pt] (.Tuple es k2 pt2) pos) S D :=
  fun σ H0 H st => semS_of (ps_asg (pe_tup pa_sem) (pg_tup hc pgs_sem hn hst) hs hw h1) (semA_mono (h σ H0 H st) fun vs H1 ⟨rs, S1, H01, e1, l1, l2, st1, ll, l3, q⟩ => by
    refine ⟨by rw [l2]; exact Nat.le_trans l3 (by decide), fun t ht => ?_⟩
    refine ⟨t, _, rfl, st_of upd_same, by rw [l2]; exact ll, ?_⟩
    refine gssem_mono (q σ H01 _ vs l1 l2 (st1.grow (Ex.new ht))) fun _ _ z => z.back e1)
/-- a, b = .., .. (both local: no tuple) -/
theorem s_parX (i j : Nat) {x y : Str} {a b : Expr} {px py pt : Pos} {kt k2 pt2} (hc : X.calm = true) (hN : X.N.Nodup) (h : AX X g Fr [a, b] S fun rs S1 => ∃ r1 r2, rs = [r1, r2] ∧ i < S1.length ∧ j < S1.length ∧ D.nx ((S1.set i r1).set j r2)) (hi : X.N[i]? = some x := by rfl) (hj : X.N[j]? = some y := by rfl) (hij : i ≠ j := by decide)
    (hx : X.env.scope.names.lookup x = some .local := by rfl) (hy : X.env.scope.names.lookup y = some .local := by rfl) (hw : swappedStores [.Tuple [.Name x px, .Name y py] kt pt] (.Tuple [a, b] k2 pt2) X.env = pure (some [x, y]) := by rfl)
    (hs : swapsWithSole [.Tuple [.Name x px, .Name y py] kt pt] (.Tuple [a, b] k2 pt2) pos.line X.env = pure false := by rfl) : S1 X g Fr (.Assign [.Tuple [.Name x px, .Name y py] kt pt] (.Tuple [a, b] k2 pt2) pos) S D :=
  fun σ H0 H st => semS_of (ps_par hc hN hi hj hij hx hy pa_sem hw hs) (semA_mono (h σ H0 H st) fun vs H1 ⟨rs, S1, H01, e1, l1, l2, st1, r1, r2, er, i1, i2, q⟩ => by
    subst er
    match vs, l2 with
    | [v, w], _ =>
      have s1 : StR X.K g Fr H01 H1 (σ.set i (some v) ++ [some w]) (S1.set i r1 ++ [r2]) := st1.takeX l1 i1
      have s2 : StR X.K g Fr H01 H1 ((σ.set i (some v)).set j (some w) ++ []) ((S1.set i r1).set j r2 ++ []) := s1.takeX (by simp [l1]) (by rw [List.length_set]; exact i2)
      rw [List.append_nil, List.append_nil] at s2
      exact ⟨v, w, rfl, _, H01, e1, s2, q⟩)
/-- a, b, c = .., .., .. (all local) -/
theorem s_parX3 (i j l : Nat) {x y z : Str} {a b c : Expr} {px py pz pt : Pos} {kt k2 pt2} (hc : X.calm = true) (hN : X.N.Nodup) (h : AX X g Fr [a, b, c] S fun rs S1 => ∃ r1 r2 r3, rs = [r1, r2, r3] ∧ i < S1.length ∧ j < S1.length ∧ l < S1.length ∧ D.nx (((S1.set i r1).set j r2).set l r3)) (hi : X.N[i]? = some x := by rfl) (hj : X.N[j]? = some y := by rfl) (hl : X.N[l]? = some z := by rfl)
    (hij : i ≠ j := by decide) (hil : i ≠ l := by decide) (hjl : j ≠ l := by decide)
    (hx : X.env.scope.names.lookup x = some .local := by rfl) (hy : X.env.scope.names.lookup y = some .local := by rfl) (hz : X.env.scope.names.lookup z = some .local := by rfl) (hw : swappedStores [.Tuple [.Name x px, .Name y py, .Name z pz] kt pt] (.Tuple [a, b, c] k2 pt2) X.env = pure (some [x, y, z]) := by rfl)
    (hs : swapsWithSole [.Tuple [.Name x px, .Name y py, .Name z pz] kt pt] (.Tuple [a, b, c] k2 pt2) pos.line X.env = pure false := by rfl) : S1 X g Fr (.Assign [.Tuple [.Name x px, .Name y py, .Name z pz] kt pt] (.Tuple [a, b, c] k2 pt2) pos) S D :=
  fun σ H0 H st => semS_of (ps_par3 hc hN hi hj hl hij hil hjl hx hy hz pa_sem hw hs) (semA_mono (h σ H0 H st) fun vs H1 ⟨rs, S1, H01, e1, l1, l2, st1, r1, r2, r3, er, i1, i2, i3, q⟩ => by
    subst er
    match vs, l2 with
    | [v, w, u], _ =>
      have s1 : StR X.K g Fr H01 H1 (σ.set i (some v) ++ [some w, some u]) (S1.set i r1 ++ [r2, r3]) := st1.takeX l1 i1
      have s2 : StR X.K g Fr H01 H1 ((σ.set i (some v)).set j (some w) ++ [some u]) ((S1.set i r1).set j r2 ++ [r3]) := s1.takeX (by simp [l1]) (by rw [List.length_set]; exact i2)
      have s3 : StR X.K g Fr H01 H1 (((σ.set i (some v)).set j (some w)).set l (some u) ++ []) (((S1.set i r1).set j r2).set l r3 ++ []) := s2.takeX (by simp [l1]) (by rw [List.length_set, List.length_set]; exact i3)
      rw [List.append_nil, List.append_nil] at s3
      exact ⟨v, w, u, rfl, _, H01, e1, s3, q⟩)
theorem RepL.erase {K : PySem.W.Frag} {H : Hp} : ∀ {vs : List V} {ds : List Dt} (i : Nat), RepL K g H vs ds → RepL K g H (vs.eraseIdx i) (ds.eraseIdx i)
  | _, _, _, .nil => .nil
  | _, _, 0, .cons _ t => t
  | _, _, i + 1, .cons r t => .cons r (RepL.erase i t)
/-- xs.pop(e), the list the name's own -/
theorem ew_popAt (i : Nat) {x : Str} {e : Expr} {p : Addr} {ds0 : List Dt} {xp apos cpos : Pos} (hS : S[i]? = some (.own p (.lst ds0))) (h : EW X g Fr e S fun d S1 => ∃ (k : Int) (ds : List Dt) (y : Dt), d = .int k ∧ S1[i]? = some (.own p (.lst ds)) ∧ 0 ≤ k ∧ k < ds.length ∧ ds.length ≤ 100000 ∧ ds[k.toNat]? = some y ∧ R y (S1.set i (.own p (.lst (ds.eraseIdx k.toNat)))))
    (hN : X.N[i]? = some x := by rfl) (hv : Vis X.env.scope x := by first | exact Or.inl rfl | exact Or.inr (Or.inl rfl) | exact Or.inr (Or.inr rfl)) (hd : (x == ("__debug__" : Str)) = false := by decide) (hcd : (x == ("__classdict__" : Str)) = false := by decide)
    (hbase : attributeBase (.Name x xp) "pop" X.env (eval (.Name x xp) X.env) = eval (.Name x xp) X.env := by rfl)
    (hfew : ((backTo cpos (starEach (e :: []) X.env)).all (fun x => !x.1) && (backToKw cpos (keywordEach [] X.env)).all (fun x => x.1.isSome) && decide ((e :: []).length + ([] : List Keyword).length + (if ([] : List Keyword).isEmpty then 0 else 1) < 30)) = true := by rfl)
    (hline : (apos.endLine == cpos.line) = true := by rfl) (hs1 : starEach (e :: []) X.env = (false, eval e X.env) :: starEach [] X.env := by rfl) (hplain : (backTo cpos (starEach [] X.env)).any (·.1) = false := by rfl) :
    EW X g Fr (.Call (.Attribute (.Name x xp) "pop" apos) [e] [] cpos) S R :=
  fun σ H0 H st => sem_of (pe_bm PySem.F.plainAttrs_list PySem.F.slot_list_pop PySem.F.type_list_pop mt_popAt (pe_var hN hv hd hcd) (pa_cons pe_sem pa_nil hs1) hbase hfew hline hs1 hplain) (by
    obtain ⟨e0, _⟩ := st.own_at hS
    refine ⟨.ref p, e0, ?_, ?_⟩
    · obtain ⟨_, vs, h1, _⟩ := st.own_at hS; exact .inl ⟨rfl, vs, sq_of h1⟩
    · refine sem_mono (h σ H0 H st) fun v H1 ⟨d, S1, H01, e1, st1, r, k, ds, y, ed, hS1, k0, k1, kl, hy, q⟩ => ?_
      subst ed
      cases r
      obtain ⟨_, vs, h1, h2⟩ := st1.own_at hS1
      obtain ⟨u, hu, ru⟩ := h2.get hy
      have hk : k < (vs.length : Int) := by rw [h2.length]; exact k1
      have kb : k < 100000 := by omega
      have sk : seqIndex? k vs.length = some k.toNat := by
        unfold seqIndex?
        simp only [if_neg (show ¬ k < 0 by omega), decide_eq_true k0, decide_eq_true hk, Bool.and_self, if_true]
      exact ⟨p, vs, k, k.toNat, u, rfl, rfl, h1, by omega, by omega, sk, hu, y, _, H01, e1, own_put st1 hS1 (h2.erase k.toNat), ru, q⟩)
/-- a test over a list of one's own -/
theorem tw_read (i : Nat) {p : Addr} {ds : List Dt} {e : Expr} {T : Bool → List Slot → Prop} (hS : S[i]? = some (.own p (.lst ds))) (ho : ∀ j s, j ≠ i → S[j]? = some s → srcOnly s) (h : TW X g Fr e (S.set i (.im (.lst ds))) fun b S1 => S1 = S.set i (.im (.lst ds)) ∧ T b S) : TW X g Fr e S T := fun σ H0 H st => by
  obtain ⟨H0a, ea, sta⟩ := st.freeze hS
  refine semT_mono (h σ H0a H sta) fun b H' hh => ?_
  obtain ⟨S1, H0', e1, st1, eS, q⟩ := hh
  subst eS
  have il : i < S.length := (List.getElem?_eq_some_iff.mp hS).1
  obtain ⟨hp, vs, hl, rl⟩ := st.own_at hS
  have hH : ∀ a o, H0 a = some o → H' a = some o := fun a o z => st1.ex a o (e1 a o (ea a o z))
  refine ⟨S, H0, Ex.refl _, ⟨hH, st1.fr, st.dis, st.len, fun j s hj => ?_, st.nd, st.free⟩, q⟩
  by_cases c : j = i
  · subst c
    rw [hS] at hj
    cases hj
    refine ⟨hp, vs, ?_, rl⟩
    obtain ⟨v, hv, rr⟩ := sta.sl j (.im (.lst ds)) (by rw [List.getElem?_set, if_pos rfl, if_pos il])
    rw [hp] at hv
    cases hv
    cases rr with
    | lst h1 h2 =>
      have := sta.ex _ _ h1
      rw [hl] at this
      cases this
      exact st1.ex _ _ (e1 _ _ h1)
  · have h0 := st.sl j s hj
    have h1 := st1.sl j s (by rw [List.getElem?_set, if_neg (fun e => c e.symm)]; exact hj)
    cases s with
    | no => exact trivial
    | im d => exact h0
    | own q o =>
      have := ho j _ c hj
      cases o with
      | src => exact h1
      | _ => exact this.elim
end
end DL

set_option Elab.async false
set_option linter.all false
set_option autoImplicit false
set_option maxRecDepth 100000
set_option maxHeartbeats 2000000
/-! The data layer, twenty-fifth part: list(range(..)); a comprehension in a comprehension. -/
namespace DL
open PySem PySem.Spec PyProof.Rows L2 PK
section
variable {X : Cx} {g : Cl} {Fr : Hp} {S : List Slot} {R : Dt → List Slot → Prop} {F : Slot → List Slot → Prop} {D : DE} {pos : Pos}
/-- list(range(e)) -/
theorem ew_listR {a : Expr} {p1 p2 p3 : Pos} (hc : X.calm = true) (hm1 : X.mg "list" = none) (hm2 : X.mg "range" = none) (h : EW X g Fr a S fun d S1 => ∃ n, d = .int n ∧ 0 ≤ n ∧ n ≤ 10000 ∧ R (.lst (rangeD 0 n.toNat)) S1) (hg1 : Gl X "list" := by rfl) (hg2 : Gl X "range" := by rfl)
    (na : starEach [a] X.env = (false, eval a X.env) :: starEach [] X.env := by rfl) (nb : starEach [.Call (.Name "range" p2) [a] [] p3] X.env = (false, eval (.Call (.Name "range" p2) [a] [] p3) X.env) :: starEach [] X.env := by rfl) : EW X g Fr (.Call (.Name "list" p1) [.Call (.Name "range" p2) [a] [] p3] [] pos) S R :=
  ew_of (pe_listRg hc hg1 hm1 (prg_1 hg2 hm2 pe_sem na) nb) fun σ H0 H st => sem_mono (h σ H0 H st) fun v H1 ⟨d, S1, H01, e1, st1, r, n, ed, n0, n1, q⟩ => by
    subst ed
    cases r
    exact ⟨n, rfl, RgOk.of_le (by decide) (by omega) (by decide) n0, fun t ht => PostE.back e1 (doneN st1 ht (fun H2 ex e => .lst e (rgV_D n)) q)⟩
/-- the scopes of a comprehension in a comprehension -/
theorem relab {F : Str × NameKind → Str × NameKind} (hF : ∀ n k, F (n, k) = (n, k) ∨ (F (n, k) = (n, .cell) ∧ k = .free)) : ∀ {names : List (Str × NameKind)} {x : Str} {k : NameKind}, names.lookup x = some k → (k = .cell ∨ k = .free) → (names.map F).lookup x = some .cell ∨ (names.map F).lookup x = some .free
  | [], _, _, h, _ => by simp at h
  | (n, j) :: r, x, k, h, hk => by
    rw [List.map_cons]
    rw [List.lookup_cons] at h
    have ih := fun h => relab hF (names := r) (x := x) h hk
    cases c : (x == n) with
    | true =>
      rw [c] at h
      cases h
      rcases hF n j with e | ⟨e, e2⟩
      · rw [e, List.lookup_cons, c]
        rcases hk with e | e <;> subst e
        · exact .inl rfl
        · exact .inr rfl
      · rw [e, List.lookup_cons, c]; exact .inl rfl
    | false =>
      rw [c] at h
      rcases hF n j with e | ⟨e, _⟩ <;> rw [e, List.lookup_cons, c] <;> exact ih h
theorem blk_in {s : Shared} {H' : Hp} {C : Addr} {cl : List (Str × Addr)} {fp : List Addr} {scope inner : Scope} {own : List (Str × Nat)} (h : BlkOk X.N scope inner own) : BlkOk (X.blk s H' scope (compEnvC scope cl C X.env) fp).N (X.blk s H' scope (compEnvC scope cl C X.env) fp).env.scope inner own :=
  ⟨h.kind, h.uniq, h.ix, fun y hy e => by
    have hF : ∀ (n : Str) (k : NameKind), (if (k == .free && X.env.scope.kind == .function && X.env.kindOf n == some .cell) then (n, NameKind.cell) else (n, k)) = (n, k) ∨ ((if (k == .free && X.env.scope.kind == .function && X.env.kindOf n == some .cell) then (n, NameKind.cell) else (n, k)) = (n, NameKind.cell) ∧ k = .free) := fun n k => by
      by_cases c : (k == .free && X.env.scope.kind == .function && X.env.kindOf n == some .cell) = true
      · rw [if_pos c]
        simp only [Bool.and_eq_true] at c
        refine .inr ⟨rfl, ?_⟩
        cases k <;> first | rfl | exact absurd c.1.1 (by decide)
      · rw [if_neg c]; exact .inl rfl
    rcases h.free y hy e with q | q
    · exact relab hF q (.inl rfl)
    · exact relab hF q (.inr rfl), h.own⟩
/-- lists of ints in order -/
theorem sorted_ints {ns : List Int} {ys : List Dt} (pm : ys.Perm (ns.map Dt.int)) (sd : ys.Pairwise fun x y => ltD y x = false) : ∃ ms : List Int, ys = ms.map Dt.int ∧ ms.Perm ns ∧ ms.Pairwise (· ≤ ·) := by
  obtain ⟨ms, h1, h2⟩ := _root_.PK.perm_lift Dt.int pm ns rfl
  refine ⟨ms, h2.symm, h1, ?_⟩
  rw [← h2] at sd
  exact (List.pairwise_map.mp sd).imp fun {x y} h => by
    rw [ltD_int] at h
    have := of_decide_eq_false h
    omega
theorem sorted_uniq : ∀ {a b : List Int}, a.Perm b → a.Pairwise (· ≤ ·) → b.Pairwise (· ≤ ·) → a = b := fun {a b} p h1 h2 => p.eq_of_pairwise (fun x y _ _ h k => Int.le_antisymm h k) h1 h2
theorem hu66 {k : Nat} {A : Around} (hr : Room k A) : A.units + 66 < cLine := by have := hr.un; omega
theorem bt_sorted : bootBuiltins "sorted" = some (.builtin "sorted") := by decide +kernel
theorem Cmp.alk {α : Type} {enc : α → Dt} {lt : α → α → Bool} (c : Cmp enc lt) (hd : ∀ a, depD (enc a) ≤ 60) (hn : ∀ a, toPy (enc a) ≠ .none) (xs : List α) : AlkD (xs.map enc) := by
  refine ⟨fun x hx y hy => ?_, fun x hx => ?_, noBoolL_plain _ (noBoolL_map c.nb xs), depL_map hd xs⟩
  · obtain ⟨a, _, rfl⟩ := List.mem_map.mp hx
    obtain ⟨b, _, rfl⟩ := List.mem_map.mp hy
    exact c.al a b
  · obtain ⟨a, _, rfl⟩ := List.mem_map.mp hx
    exact hn a
/-- sorted(..), the items told by their meanings -/
theorem cw_sortedC {α : Type} {enc : α → Dt} {lt : α → α → Bool} {d : Dt} {xs : List α} (c : Cmp enc lt) (hu : X.A.units + 66 < cLine) (hx : itemsOf d = some (xs.map enc)) (hd : ∀ a, depD (enc a) ≤ 60) (hn : ∀ a, toPy (enc a) ≠ .none) (so : (∀ x ∈ xs, ∃ y r, enc x = .tup (y :: r)) ∨ ∀ x ∈ xs, ∀ r, enc x ≠ .tup r)
    (h : ∀ zs : List α, zs.Perm xs → zs.Pairwise (fun x y => lt y x = false) → R (.lst (zs.map enc)) S) : CW X g Fr (.builtin "sorted") [.im d] S R := by
  refine cw_sorted hu hx (c.alk hd hn xs) ?_ fun ys pm sd => ?_
  · rcases so with so | so
    · left
      intro x hx
      obtain ⟨a, ha, rfl⟩ := List.mem_map.mp hx
      exact so a ha
    · right
      intro x hx
      obtain ⟨a, ha, rfl⟩ := List.mem_map.mp hx
      exact so a ha
  · obtain ⟨zs, h1, h2⟩ := _root_.PK.perm_lift enc pm xs rfl
    rw [← h2] at sd
    have sd := (List.pairwise_map.mp sd).imp fun {x y} h => by rw [c.lt] at h; exact h
    have := h zs h1 sd
    rwa [h2] at this
theorem ord_uniq {α : Type} {lt : α → α → Bool} (o : _root_.PK.Ord lt) {a b : List α} (p : a.Perm b) (h1 : a.Pairwise fun x y => lt y x = false) (h2 : b.Pairwise fun x y => lt y x = false) : a = b := p.eq_of_pairwise (fun x y _ _ h k => o.tot x y k h) h1 h2
theorem encG_cmp : Cmp encG (lexB ltInt) := cmpInt.tup
end
end DL

set_option Elab.async false
set_option linter.all false
set_option autoImplicit false
set_option maxRecDepth 100000
set_option maxHeartbeats 2000000
/-! The data layer, twenty-sixth part: enumerate(..) of a list or a tuple, walked. -/
namespace DL
open PySem PySem.Spec PyProof.Rows L2 PK
section
variable {P : Program} {w : World} {K : PySem.W.Frag}
/-- what enumerate(t) makes of a tuple -/
abbrev enT (h : Heap) (a : Addr) : Heap := (h.push { cls := .type "tuple_iterator", data := .fields #[.ref a, .int 0 0] }).push { cls := .type "enumerate", data := .fields #[.none, .bool false, .ref h.objs.size, rawInt 0, .none, .none] }
theorem enum_newT (a : Addr) (items : Array Value) :
    Meets (Builtin.«enumerate.__new__» ⟨[.type "enumerate", .ref a], []⟩) (fun _ R s => s.heap.IsTuple a items ∧ R (.ok (.ret (.ref (s.heap.push { cls := .type "tuple_iterator", data := .fields #[.ref a, .int 0 0] }).objs.size))) { s with heap := enT s.heap a }) :=
  .of_wp fun prog w A R s h => by
    obtain ⟨hp, g, d, tk, os⟩ := s; obtain ⟨h1, h⟩ := h
    have hsub := sub_enumerate; obtain ⟨⟨oc, od, dat, sl⟩, ho, hc, n, hd⟩ := id h1
    simp only at hc hd; subst hc hd
    have q1 : ∀ {A' : Around} {E : Value → Shared → Prop} {Q : Value → Shared → Prop}, Q (.ref hp.objs.size) ⟨hp.push { cls := .type "tuple_iterator", data := .fields #[.ref a, .int 0 0] }, g, d, tk, os⟩ → wpAny (model prog w) A' (pyIter (.ref a)) Q E ⟨hp, g, d, tk, os⟩ := fun q => wpAny_pyIter_tuple h1 q
    wp_walk using AutoSeq1.wpAny_loadPart' ho, q1
    refine wpAny_stack_any fun st => wpAny_pure ?_
    split
    rotate_left
    · wp_walk using AutoSeq1.wpAny_loadPart' ho, q1; exact ⟨_, rfl, h⟩
    rename_i c _ _ _ _ _; cases (c == Value.type "enumerate") <;> (wp_walk using AutoSeq1.wpAny_loadPart' ho, q1; exact ⟨_, rfl, h⟩)
theorem call_enT {A : Around} {E : Value → Shared → Prop} {s : Shared} {a : Addr} {items : Array Value} {Q : Value → Shared → Prop} (ht : s.heap.IsTuple a items)
    (q : ∀ h', IsEnum h' (s.heap.objs.size + 1) s.heap.objs.size 0 .none → h'.IsTupleIter s.heap.objs.size a 0 → (∀ b o, s.heap.get? b = some o → h'.get? b = some o) → Q (.ref (s.heap.objs.size + 1)) { s with heap := h' }) :
    wpAny (model P w) A (call (.type "enumerate") [.ref a]) Q E s := by
  refine callType_new F.called_enumerate (by decide) (F.typeCall_enumerate_1 _) (F.newCall_enumerate_1 _) (fun obj => F.args_object_init_2 obj _) F.entry_enumerate_new (enum_newT a items) ⟨ht, ?_⟩
  have hz : (s.heap.push { cls := .type "tuple_iterator", data := .fields #[.ref a, .int 0 0] }).objs.size = s.heap.objs.size + 1 := Heap.size_push ..
  show _ ∧ _; rw [hz]
  have h1 : (enT s.heap a).get? (s.heap.objs.size + 1) = some { cls := .type "enumerate", data := .fields #[.none, .bool false, .ref s.heap.objs.size, rawInt 0, .none, .none] } := by
    have := Heap.get?_push_size (s.heap.push { cls := .type "tuple_iterator", data := .fields #[.ref a, .int 0 0] }) (o := { cls := .type "enumerate", data := .fields #[.none, .bool false, .ref s.heap.objs.size, rawInt 0, .none, .none] }) rfl
    rwa [hz] at this
  exact ⟨⟨_, h1, rfl⟩, q _ h1 ⟨_, Heap.get?_push_of_some _ (Heap.get?_push_size _ rfl), rfl, rfl⟩ fun b o x => Heap.get?_push_of_some _ (Heap.get?_push_of_some _ x)⟩
/-- a tuple's places and items -/
def ItT (K : PySem.W.Frag) (a : Addr) : It :=
  ⟨fun i H => ∃ (xs : List V) (x : V), SqT K H a xs ∧ xs[i]? = some x, fun i H v H' => ∃ t x, v = .ref t ∧ H t = none ∧ H' = upd H t (.tup [.int (i : Nat), x]) ∧ ∀ xs, SqT K H a xs → xs[i]? = some x, fun i H => ∃ xs : List V, SqT K H a xs ∧ xs.length ≤ i⟩
theorem turn_enT {elts : List Expr} {kk : Nat} {tpos : Pos} (a e it : Addr) (hae : a ≠ e) (hai : a ≠ it) :
    Turn P w K (.Tuple elts kk tpos) (ItT K a) [e, it] e (fun i h => (∃ old, IsEnum h e it ((i : Nat) : Int) old) ∧ h.IsTupleIter it a i ∧ e ≠ it) where
  mem := by simp
  obj := fun i h ⟨⟨old, he⟩, ⟨o, ho, hc, hd⟩, _⟩ b hb => by
    have z : b = e ∨ b = it := by simpa using hb
    rcases z with z | z <;> rw [z]
    · exact ⟨_, he, fun v q => nomatch q⟩
    · exact ⟨o, ho, fun v q => by rw [hd] at q; cases q⟩
  keep := fun i h h' ⟨⟨old, he⟩, hi, hne⟩ k => ⟨⟨old, k e (by simp) _ he⟩, hi.at fun o q => k it (by simp) o q, hne⟩
  item := by
    intro X hP hw hK hc i pins s σ H E I hf ⟨⟨old, he⟩, hit, hne⟩ ⟨xs, x, hq, hx⟩
    subst hP hw hK
    obtain ⟨its, rv, p, hz⟩ := I.tuple hq
    obtain ⟨u, hu, ru⟩ := rv.get hx
    have hel := Heap.lt_size he
    have hil : it < s.heap.objs.size := let ⟨_, q, _⟩ := hit; Heap.lt_size q
    have hl : i < its.toArray.size := by simpa using (List.getElem?_eq_some_iff.mp hu).1
    refine wpAny_pyNext_enum_itemD (Draws.tuple (show X.A.in1.handled = none from I.ok.hd hc) it a hai its.toArray) he ⟨hit, p⟩ hl hne (by simp [hne, Ne.symm hae]) fun y h' tk hy ho hst hT hsz hk => ?_
    have ey : y = u := by
      have : its.toArray[i]? = some u := by simpa using hu
      rw [this] at hy; cases hy; rfl
    subst ey
    refine ⟨_, rfl, wpAny_letOwnedTupleGo_enum (s := { s with heap := h', toks := tk + 1 }) ho fun h'' he' sb => ?_⟩
    have hT2 := (sb.2 _ (Nat.ne_of_gt hel)).trans hT
    have new : ObjOk X.prog X.w (upd H s.heap.objs.size (.tup [.int (i : Nat), x])) h'' s.heap.objs.size (.tup [.int (i : Nat), x]) := ⟨by show 2 ≤ sizeLine; decide, [.int i tk, y], .cons ⟨_, rfl⟩ (.cons ru .nil), ⟨_, hT2, rfl, _, rfl⟩⟩
    have I1 : Inv X pins σ (upd H s.heap.objs.size (.tup [.int (i : Nat), x])) { s with heap := h'', toks := tk + 1 } :=
      I.turnedNew (ch := [e, it]) (fun b ob hb q => (sb.2 b (fun z => hb (by simp [z]))).trans (hk b ob (fun z => hb (by simp [z])) (fun z => hb (by simp [z])) q)) hf (Nat.le_refl _) new
    refine ⟨.ref s.heap.objs.size, _, I1, rfl, ⟨_, x, rfl, I.hok.fresh (Nat.le_refl _), rfl, fun ys hy => by rw [I.tuple_inj hy hq]; exact hx⟩, ⟨⟨y, ?_⟩, hst.1.at fun o q => (sb.2 it (Ne.symm hne)).trans q, hne⟩, fun b hb => ?_⟩
    · rw [show ((i + 1 : Nat) : Int) = (i : Int) + 1 by omega]; exact he'
    · have z : b = e ∨ b = it := by simpa using hb
      rw [upd_ne (by rcases z with z | z <;> rw [z] <;> first | exact Nat.ne_of_lt hel | exact Nat.ne_of_lt hil)]
      exact (hf b hb).1
  done := by
    intro X hP hw hK hc i pins s σ H E I hf ⟨⟨old, he⟩, hit, hne⟩ ⟨xs, hq, hx⟩
    subst hP hw hK
    obtain ⟨its, rv, p, hz⟩ := I.tuple hq
    obtain ⟨f0, f1, f2, f3, f4, f5⟩ := hf it (by simp)
    have hl := rv.length
    have D : Draws X.prog X.w X.A.in1 it [it, a] i (fun _ _ => True) (fun j h => j = i ∧ h.IsTupleIter it a i ∧ h.IsTuple a its.toArray) := {
      live := fun _ _ ⟨_, ⟨o, ho, _⟩, _⟩ => ⟨o, ho⟩
      frame := fun _ _ _ ⟨e1, s1, s2⟩ hk => ⟨e1, s1.at fun o e => hk it (by simp) o e, s2.at fun o e => hk a (by simp) o e⟩
      item := fun j s Q E hj ⟨e1, _⟩ _ => absurd hj (by omega)
      done := fun s Q E ⟨_, s1, s2⟩ hE => wpAny_nextOf_tuple_end (show X.A.in1.handled = none from I.ok.hd hc) s1 s2 (by simp; omega) hE }
    exact wpAny_pyNext_enum_endD D he ⟨rfl, hit, p⟩ fun h' eb => ⟨rfl, I.turned (t' := s.toks) (fun b o hb q => eb b o hb q) f0 f1 f3 f4 f5⟩
  self := fun A i s Q E ⟨⟨_, he⟩, _⟩ h => wpAny_pyIter_enum he h
theorem pi_enT {X : Cx} {e : Expr} {ta : TA} {p pos tpos : Pos} {elts : List Expr} {kk : Nat} (hg : Gl X "enumerate") (hm : X.mg "enumerate" = none) (ha : PA X [e] ta) (hs : starEach [e] X.env = [(false, eval e X.env)] := by rfl) :
    PI X (.Tuple elts kk tpos) (.Call (.Name "enumerate" p) [e] [] pos) (fun σ H R => ta σ H fun vs H1 => ∃ a xs, vs = [.ref a] ∧ SqT X.K H1 a xs ∧ R (ItT X.K a) H1) := by
  refine ⟨fun pins s σ H R I h => Call_ (ld_blt I hg hm boot_enumerate (PyProof.Rows.callWith_type1 (thn (ha.run pos pins s σ H _ I h) fun us s1 ⟨vs, H1, I1, r1, a, xs, ex, hq, q⟩ => ?_) hs rfl))⟩
  subst ex
  cases r1 with
  | cons r rr =>
    cases rr
    cases r
    obtain ⟨its, rv, p', hz⟩ := I1.tuple hq
    obtain ⟨oa, hoa, _⟩ := id p'
    have lt := Heap.lt_size hoa
    refine call_enT p' fun h' he hit hk => wpAny_pyIter_enum he ?_
    refine ⟨s1.heap.objs.size + 1, [s1.heap.objs.size + 1, s1.heap.objs.size], _, _, H1, rfl, I1.kept (t' := s1.toks) hk, turn_enT a _ _ (Nat.ne_of_lt (Nat.lt_succ_of_lt lt)) (Nat.ne_of_lt lt), ⟨⟨.none, he⟩, hit, Nat.succ_ne_self _⟩, fun b hb => ?_, q⟩
    have hle : s1.heap.objs.size ≤ b := by
      have z : b = s1.heap.objs.size + 1 ∨ b = s1.heap.objs.size := by simpa using hb
      rcases z with z | z <;> rw [z] <;> first | exact Nat.le_succ _ | exact Nat.le_refl _
    exact I1.fpOk hle (I1.hok.fresh hle)
end
/-- places and items -/
def enumD (xs : List Dt) : List Dt := (List.range xs.length).map fun i : Nat => Dt.tup [.int (i : Int), xs.getD i .non]
theorem enumD_len (xs : List Dt) : (enumD xs).length = xs.length := by unfold enumD; rw [List.length_map, List.length_range]
theorem enumD_get {xs : List Dt} {i : Nat} {d : Dt} (h : xs[i]? = some d) : (enumD xs)[i]? = some (.tup [.int (i : Int), d]) := by
  have hi := (List.getElem?_eq_some_iff.mp h).1
  unfold enumD
  rw [List.getElem?_map, List.getElem?_range hi]
  show some (Dt.tup [_, xs.getD i .non]) = _
  rw [List.getD_eq_getElem?_getD, h]; rfl
theorem enumD_at {xs : List Dt} {i : Nat} {x : Dt} (h : (enumD xs)[i]? = some x) : ∃ d, xs[i]? = some d ∧ x = .tup [.int (i : Int), d] := by
  have hi := (List.getElem?_eq_some_iff.mp h).1
  rw [enumD_len] at hi
  refine ⟨xs[i], List.getElem?_eq_getElem hi, ?_⟩
  rw [enumD_get (List.getElem?_eq_getElem hi)] at h
  cases h; rfl
section
variable {X : Cx} {g : Cl} {Fr : Hp} {S : List Slot} {P : List Dt → List Slot → Prop}
theorem rep_pair {K : PySem.W.Frag} {H0 H1 : Hp} {t : Addr} {i : Nat} {x : V} {d : Dt} (r : Rep K g H0 x d) (e : Ex H0 H1) (h : H1 t = some (.tup [.int (i : Nat), x])) : Rep K g H1 (.ref t) (.tup [.int (i : Int), d]) := .tup h (.cons (.int _) (.cons (r.mono e) .nil))
theorem walks_enL {K : PySem.W.Frag} {H0 : Hp} {a : Addr} {vs : List V} {ds : List Dt} (h : H0 a = some (.lst vs)) (l : RepL K g H0 vs ds) : Walks K g (Ite K a) H0 (enumD ds) where
  go := fun i H e hi => by
    rw [enumD_len, ← l.length] at hi
    exact ⟨vs, vs[i], sq_of (e _ _ h), List.getElem?_eq_getElem hi⟩
  stop := fun i H e hi => ⟨vs, sq_of (e _ _ h), by rw [l.length, ← enumD_len]; exact hi⟩
  yld := fun i H x H' e hi ⟨t, v, ex, ht, eH, hv⟩ => by
    obtain ⟨d, hd, rd⟩ := l.getV (hv vs (sq_of (e _ _ h)))
    exact ⟨_, enumD_get hd, .inr ⟨t, _, ex, ht, eH, fun H1 e1 h1 => rep_pair rd e1 h1⟩⟩
theorem walks_enT {K : PySem.W.Frag} {H0 : Hp} {a : Addr} {vs : List V} {ds : List Dt} (h : H0 a = some (.tup vs)) (l : RepL K g H0 vs ds) : Walks K g (ItT K a) H0 (enumD ds) where
  go := fun i H e hi => by
    rw [enumD_len, ← l.length] at hi
    exact ⟨vs, vs[i], st_of (e _ _ h), List.getElem?_eq_getElem hi⟩
  stop := fun i H e hi => ⟨vs, st_of (e _ _ h), by rw [l.length, ← enumD_len]; exact hi⟩
  yld := fun i H x H' e hi ⟨t, v, ex, ht, eH, hv⟩ => by
    obtain ⟨d, hd, rd⟩ := l.getV (hv vs (st_of (e _ _ h)))
    exact ⟨_, enumD_get hd, .inr ⟨t, _, ex, ht, eH, fun H1 e1 h1 => rep_pair rd e1 h1⟩⟩
/-- enumerate(e), e a tuple -/
theorem iw_enT {e : Expr} {p pos tpos : Pos} {elts : List Expr} {kk : Nat} (hm : X.mg "enumerate" = none) (h : EW X g Fr e S fun d S1 => ∃ xs, d = .tup xs ∧ P (enumD xs) S1) (hg : Gl X "enumerate" := by rfl) (hs : starEach [e] X.env = [(false, eval e X.env)] := by rfl) (hs2 : starEach (e :: []) X.env = (false, eval e X.env) :: starEach [] X.env := by rfl) :
    IW X g Fr (.Tuple elts kk tpos) (.Call (.Name "enumerate" p) [e] [] pos) S P :=
  fun σ H0 H st => isem_of (pi_enT hg hm pa_sem hs) (semA_mono (aw_im (A := fun ss S1 => ∃ xs, ss = [.im (.tup xs)] ∧ P (enumD xs) S1) (ew_mono h fun d S1 ⟨xs, ed, q⟩ => aw_nil ⟨xs, by rw [ed], q⟩) hs2 σ H0 H st) fun vs H1 ⟨ss, S1, H01, e1, st1, ra, xs, es, q⟩ => by
    subst es
    obtain ⟨v, rfl, r⟩ := arg1 ra
    cases r with
    | tup ha l => exact ⟨_, _, rfl, st_of (st1.ex _ _ ha), _, S1, H01, e1, st1, walks_enT ha l, q⟩)
/-- enumerate(e), e a list -/
theorem iw_enL {e : Expr} {p pos tpos : Pos} {elts : List Expr} {kk : Nat} (hm : X.mg "enumerate" = none) (h : EW X g Fr e S fun d S1 => ∃ xs, d = .lst xs ∧ P (enumD xs) S1) (hg : Gl X "enumerate" := by rfl) (hs : starEach [e] X.env = [(false, eval e X.env)] := by rfl) (hs2 : starEach (e :: []) X.env = (false, eval e X.env) :: starEach [] X.env := by rfl) :
    IW X g Fr (.Tuple elts kk tpos) (.Call (.Name "enumerate" p) [e] [] pos) S P :=
  fun σ H0 H st => isem_of (pi_enum hg hm pa_sem hs) (semA_mono (aw_im (A := fun ss S1 => ∃ xs, ss = [.im (.lst xs)] ∧ P (enumD xs) S1) (ew_mono h fun d S1 ⟨xs, ed, q⟩ => aw_nil ⟨xs, by rw [ed], q⟩) hs2 σ H0 H st) fun vs H1 ⟨ss, S1, H01, e1, st1, ra, xs, es, q⟩ => by
    subst es
    obtain ⟨v, rfl, r⟩ := arg1 ra
    cases r with
    | lst ha l => exact ⟨_, _, rfl, sq_of (st1.ex _ _ ha), _, S1, H01, e1, st1, walks_enL ha l, q⟩)
end
end DL

set_option Elab.async false
set_option linter.all false
set_option autoImplicit false
set_option maxRecDepth 100000
set_option maxHeartbeats 2000000
/-! The data layer, twenty-seventh part: texts; str of a price list; a price list beside other data. -/
namespace DL
open PySem PySem.Spec PyProof.Rows L2 PK
section
variable {X : Cx} {g : Cl} {Fr : Hp} {S : List Slot} {R : Dt → List Slot → Prop} {D : DE} {pos : Pos} {x y : Str}
theorem ow_addS (hl : x.length + y.length ≤ sizeLine) (h : R (.str (x ++ y)) S) : OpW X g Fr (binaryOp .Add) (.str x) (.str y) S R := ow_of op_add_str fun σ H0 H v1 v2 st r1 r2 => by
  cases r1; cases r2
  exact ⟨_, _, rfl, rfl, hl, done st (.str _) h⟩
theorem ow_eqS' (h : R (.bl (decide (x = y))) S) : OpW X g Fr (compareOp .Eq) (.str x) (.str y) S R := ow_of op_eq fun σ H0 H v1 v2 st r1 r2 => by
  cases r1; cases r2
  have e : decide (V.str x = V.str y) = decide (x = y) := by simp
  exact ⟨rfl, by rw [e]; exact done st (.bl _) h⟩
theorem ow_neS' (h : R (.bl (!decide (x = y))) S) : OpW X g Fr (compareOp .NotEq) (.str x) (.str y) S R := ow_of op_ne fun σ H0 H v1 v2 st r1 r2 => by
  cases r1; cases r2
  have e : decide (V.str x = V.str y) = decide (x = y) := by simp
  exact ⟨rfl, by rw [e]; exact done st (.bl _) h⟩
theorem bt_str : bootBuiltins "str" = some (.type "str") := by decide +kernel
theorem cw_strI {i : Int} (hz : i.natAbs.log2 < 1920) (h : R (.str (Str.ofString (toString i))) S) : CW X g Fr (.type "str") [.im (.int i)] S R := cw_of call_str_int fun σ H0 H vs st ra => by
  obtain ⟨v, rfl, r⟩ := arg1 ra
  cases r
  exact ⟨i, rfl, hz, done st (.str _) h⟩
/-- sep.join(e), e a list of texts -/
theorem ew_join {o e : Expr} {apos : Pos} (h : EW X g Fr o S fun d S1 => ∃ a : Str, d = .str a ∧ EW X g Fr e S1 fun d2 S2 => ∃ ys : List Str, d2 = .lst (ys.map Dt.str) ∧ (ys.map (·.length)).sum + ys.length * a.length ≤ 16777216 ∧ R (.str (Txt.join a ys)) S2)
    (hs : starEach [e] X.env = [(false, eval e X.env)] := by rfl) (hbase : attributeBase o "join" X.env (eval o X.env) = eval o X.env := by rfl) (hline : (apos.endLine == pos.line) = true := by rfl) : EW X g Fr (.Call (.Attribute o "join" apos) [e] [] pos) S R :=
  ew_of (pe_join pe_sem pe_sem hs hbase hline) fun σ H0 H st => sem_mono (h σ H0 H st) fun v H1 ⟨d, S1, H01, e1, st1, r, a, ed, q⟩ => by
    subst ed
    cases r
    refine ⟨⟨a, rfl⟩, sem_mono (q σ H01 H1 st1) fun w H2 ⟨d2, S2, H02, e2, st2, r2, ys, ed, hl, q2⟩ => ?_⟩
    subst ed
    cases r2 with
    | lst h1 l => rw [l.strs] at h1; exact ⟨a, _, ys, rfl, rfl, .inl (sq_of (st2.ex _ _ h1)), hl, PostE.back (e1.trans e2) (done st2 (.str _) q2)⟩
/-- str of a price list -/
theorem cw_strP {ps : List Pack} {k : Nat} {F : FM} (G : BinD X.prog X.w X.K X.mg X.base g k "__str__" F) (hr : Room (k + 2) X.A) (h : F [.im (.shop ps)] fun r => ∃ z : Str, r = .im (.str z) ∧ R (.str z) S) : CW X g Fr (.type "str") [.im (.shop ps)] S R := by
  obtain ⟨f, hf, hfn, Gf⟩ := G.ex
  intro σ H0 H vs st ra pins s σ' us I rs
  obtain ⟨v, rfl, r1⟩ := arg1 ra
  obtain ⟨a, dx, fs, rfl, ha⟩ := shop_at r1
  obtain ⟨u, rfl, ru⟩ := rs.one
  cases (show u = Value.ref a from ru)
  obtain ⟨mA, J, _⟩ := ins_get I.hok (st.ex _ _ ha)
  obtain ⟨od, J, _⟩ := J.look
  have hp := call_post (T := fun r S2 => ∃ z : Str, r = .im (.str z) ∧ R (.str z) S2) G.mono st (.im r1 .nil) (by simp [Slot.fp]) h
  refine PySem.W.kso_call hr.in1.in1.units0 I.kIn J hf hfn ?_
  refine wpAny_mono (wpAny_call (SlX.run_at (us := [.ref a]) (ws := [.ref a]) Gf hr.in1.in1 I.env0.in1.in1 pass0 I (.cons rfl .nil) hp)) (fun w s' z => ?_) fun _ _ x => x
  obtain ⟨z', H', I', rz, r, S3, H05, e5, st5, z, er, q5⟩ := z
  subst er
  have rl := st5.last
  cases rl
  obtain ⟨t, e⟩ := (show ∃ t, w = Value.str z t from rz)
  subst e
  exact ⟨.str z, H', I', ⟨_, rfl⟩, .str z, S3, H05, e5, st5.unsnoc, .str z, q5⟩
/-- d not in a price list -/
theorem ow_notInS {d : Dt} {ps : List Pack} {k : Nat} {F : FM} (G : BinD X.prog X.w X.K X.mg X.base g k "__contains__" F) (hr : Room k X.A) (h : F [.im (.shop ps), .im d] fun r => ∃ b, r = .im (.bl b) ∧ R (.bl (!b)) S) : OpW X g Fr (compareOp .NotIn) d (.shop ps) S R := by
  obtain ⟨f, hf, hfn, Gf⟩ := G.ex
  intro σ H0 H v1 v2 st r1 r2 pins s σ' u1 u2 I ra rb
  obtain ⟨b, dy, gs, rfl, hb⟩ := shop_at r2
  cases (show u2 = Value.ref b from rb)
  obtain ⟨mB, J', _⟩ := ins_get I.hok (st.ex _ _ hb)
  obtain ⟨od', J', _⟩ := J'.look
  obtain ⟨m, hF⟩ := I.fr
  have hp := call_post (T := fun r S2 => ∃ b, r = .im (.bl b) ∧ R (.bl (!b)) S2) G.mono st (.im r2 (.im r1 .nil)) (by simp [Slot.fp]) h
  refine PySem.W.notIn_K hF I.ok.mod.kin J' hf hfn ?_
  refine wpAny_mono (wpAny_call (run_fnR (us := [.ref b, u1]) (vs := [.ref b, v1]) Gf hr pass0 I (.cons rfl (.cons ra .nil)) hp)) (fun w s' z => ?_) fun _ _ x => x
  obtain ⟨z', H', I', rz, r, S3, H05, e5, st5, b, er, q5⟩ := z
  subst er
  have rl := st5.last
  cases rl
  cases (show w = Value.bool b from rz)
  exact wpAny_truthy_bool ⟨.bl (!b), H', I', rfl, .bl (!b), S3, H05, e5, st5.unsnoc, .bl (!b), q5⟩
/-- a price list == a tuple -/
theorem ow_eqSt {ps : List Pack} {xs : List Dt} {k : Nat} {F : FM} (G : BinD X.prog X.w X.K X.mg X.base g k "__eq__" F) (hnf : PySem.W.notFirst X.K g.shop (.type "tuple") = true) (hr : Room k X.A) (h : F [.im (.shop ps), .im (.tup xs)] fun r => ∃ d, r = .im d ∧ R d S) : OpW X g Fr (compareOp .Eq) (.shop ps) (.tup xs) S R := by
  obtain ⟨f, hf, hfn, Gf⟩ := G.ex
  intro σ H0 H v1 v2 st r1 r2 pins s σ' u1 u2 I ra rb
  obtain ⟨a, dx, fs, rfl, ha⟩ := shop_at r1
  cases (show u1 = Value.ref a from ra)
  obtain ⟨mA, J, _⟩ := ins_get I.hok (st.ex _ _ ha)
  obtain ⟨od, J, _⟩ := J.look
  obtain ⟨m, hF⟩ := I.fr
  have hb : ∃ b, v2 = .ref b ∧ ∃ vs, H b = some (.tup vs) := by
    cases r2 with
    | tup e l => exact ⟨_, rfl, _, st.ex _ _ e⟩
  obtain ⟨b, rfl, vs, eb⟩ := hb
  cases (show u2 = Value.ref b from rb)
  obtain ⟨its, rv, ⟨o, ho, hc, hd⟩, hz⟩ := I.tuple (st_of eb)
  exact PySem.W.cmp_K (op := .Eq) (tb := .type "tuple") hr.units0 hF I.ok.mod.kin J (fun A Q E s' k q => wpAny_typeOf (T := "tuple") ⟨o, k _ _ ho, hc⟩ q) hnf hf hfn (own_run G.mono Gf hr I ra rb st r1 r2 h)
end
end DL

set_option Elab.async false
set_option linter.all false
set_option autoImplicit false
set_option maxRecDepth 100000
set_option maxHeartbeats 2000000
/-! The data layer, twenty-eighth part: objects that their own methods change (carts). -/
namespace DL
open PySem PySem.Spec PyProof.Rows L2 PK
/-- what a method of a cart comes to: its states, its further arguments; the result, its states from then on -/
abbrev CF := List Dt → List Dt → (Dt → List Dt → Prop) → Prop
def MonoC (F : CF) : Prop := ∀ st ds (R R' : Dt → List Dt → Prop), (∀ d s, R d s → R' d s) → F st ds R → F st ds R'
def spC (K : PySem.W.Frag) (g : Cl) (F : CF) : Sp := fun vs H Q _ => ∃ Fr H0 p dx l cs ds, StR K g Fr H0 H (vs.map some) (.own p (.cart dx l cs) :: ds.map Slot.im) ∧
  F cs ds fun d cs' => ∀ v H0' H', Ex H0 H0' → StR K g Fr H0' H' (vs.map some ++ [some v]) ((.own p (.cart dx l cs') :: ds.map Slot.im) ++ [.im d]) → Q v H'
structure MtC (P : Program) (w : World) (K : PySem.W.Frag) (mg : Str → Option Value) (base : Heap) (g : Cl) (k : Nat) (m : Str) (F : CF) : Prop where
  mono : MonoC F
  ex : ∃ f : Addr, Meth K g.cart m f ∧ FnR P w K mg base CX0 k f (spC K g F)
structure CarC (K : PySem.W.Frag) (g : Cl) : Prop where
  isi : IsiC K g.cart
  nS : NoAttr K g.cart "states"

theorem nd_set {t : Slot} : ∀ {S : List Slot} {i : Nat}, (S.flatMap Slot.fp).Nodup → (t.fp).Nodup → (∀ j s, j ≠ i → S[j]? = some s → ∀ a ∈ t.fp, a ∉ s.fp) → ((S.set i t).flatMap Slot.fp).Nodup
  | [], _, _, _, _ => by simp
  | s :: r, 0, h, ht, hd => by
    rw [List.set_cons_zero, List.flatMap_cons]
    rw [List.flatMap_cons] at h
    obtain ⟨n1, n2, n3⟩ := List.nodup_append.mp h
    refine List.nodup_append.mpr ⟨ht, n2, fun a ha b hb e => ?_⟩
    subst e
    obtain ⟨u, hu, m⟩ := List.mem_flatMap.mp hb
    obtain ⟨j, hj⟩ := List.mem_iff_getElem?.mp hu
    exact hd (j + 1) u (by omega) (by simpa using hj) a ha m
  | s :: r, i + 1, h, ht, hd => by
    rw [List.set_cons_succ, List.flatMap_cons]
    rw [List.flatMap_cons] at h
    obtain ⟨n1, n2, n3⟩ := List.nodup_append.mp h
    refine List.nodup_append.mpr ⟨n1, nd_set n2 ht fun j u hj hu => hd (j + 1) u (by omega) (by simpa using hu), fun a ha b hb e => ?_⟩
    subst e
    obtain ⟨u, hu, m⟩ := List.mem_flatMap.mp hb
    rcases List.mem_or_eq_of_mem_set hu with q | q
    · exact n3 a ha a (mem_fp q m) rfl
    · subst q; exact hd 0 s (by omega) rfl a m ha
theorem mem_set {t : Slot} {S : List Slot} {i : Nat} {a : Addr} (h : a ∈ (S.set i t).flatMap Slot.fp) : a ∈ t.fp ∨ a ∈ S.flatMap Slot.fp := by
  obtain ⟨u, hu, m⟩ := List.mem_flatMap.mp h
  rcases List.mem_or_eq_of_mem_set hu with q | q
  · exact .inr (mem_fp q m)
  · subst q; exact .inl m
theorem fp_nd {S : List Slot} {i : Nat} {s : Slot} (nd : (S.flatMap Slot.fp).Nodup) (h : S[i]? = some s) : s.fp.Nodup := by
  induction S generalizing i with
  | nil => simp at h
  | cons t r ih =>
    rw [List.flatMap_cons] at nd
    obtain ⟨n1, n2, n3⟩ := List.nodup_append.mp nd
    cases i with
    | zero => simp at h; subst h; exact n1
    | succ i => exact ih n2 (by simpa using h)
theorem im_fp (ds : List Dt) : (ds.map Slot.im).flatMap Slot.fp = [] := by
  induction ds with
  | nil => rfl
  | cons d r ih => rw [List.map_cons, List.flatMap_cons, ih]; rfl
section
variable {K : PySem.W.Frag} {g : Cl} {Fr H0 H : Hp} {σ : L2.St} {S : List Slot} {vs : List V}
theorem argIm : ∀ {vs : List V} {ds : List Dt}, RepL K g H0 vs ds → ArgR K g H0 S vs (ds.map Slot.im)
  | _, _, .nil => .nil
  | _, _, .cons r t => .im r (argIm t)
/-- the callee's end: the own object is another, the rest stands -/
theorem call_outC {i : Nat} {p : Addr} {o o' : OD} {ds : List Dt} {τ : L2.St} {S' : List Slot} {H0' H' : Hp} (st : StR K g Fr H0 H σ S) (hS : S[i]? = some (.own p o)) (e : Ex H0 H0')
    (st' : StR K g (frOf H0 H (.own p o :: ds.map .im)) H0' H' τ S') (h' : S'[0]? = some (.own p o')) : StR K g Fr H0' H' σ (S.set i (.own p o')) := by
  have hi : i < S.length := (List.getElem?_eq_some_iff.mp hS).1
  have hss : (Slot.own p o :: ds.map Slot.im).flatMap Slot.fp = o.fp p := by rw [List.flatMap_cons, im_fp, List.append_nil]; rfl
  have mS : ∀ a, a ∈ o.fp p → a ∈ S.flatMap Slot.fp := fun a ha => mem_fp (List.mem_iff_getElem?.mpr ⟨i, hS⟩) ha
  have keep : ∀ a u, H a = some u → a ∉ o.fp p → H' a = some u := fun a u h n => by
    cases q : H0 a with
    | some w =>
      have := st.ex a w q
      rw [h] at this; cases this
      exact st'.ex _ _ (e _ _ q)
    | none => exact st'.fr _ _ (by rw [frOf_of q (by rw [hss]; exact n)]; exact h)
  have notin : ∀ a u, Fr a = some u → a ∉ o.fp p := fun a u h m => by have := (st.free a (mS a m)).2; rw [h] at this; cases this
  have hsome : ∀ a, a ∈ S.flatMap Slot.fp → ∃ u, H a = some u := fun a ha => by
    obtain ⟨s, hs, m⟩ := List.mem_flatMap.mp ha
    obtain ⟨j, hj⟩ := List.mem_iff_getElem?.mp hs
    cases s with
    | no => simp [Slot.fp] at m
    | im d => simp [Slot.fp] at m
    | own p o => exact (st.own_at hj).2.some_of m
  have m' : ∀ a, a ∈ o'.fp p → a ∈ S'.flatMap Slot.fp := fun a ha => mem_fp (List.mem_iff_getElem?.mpr ⟨0, h'⟩) ha
  -- what the object holds anew stood nowhere before
  have fresh : ∀ a, a ∈ o'.fp p → a ∉ o.fp p → H a = none := fun a ha n => by
    obtain ⟨f1, f2⟩ := st'.free a (m' a ha)
    have h0 : H0 a = none := e.free f1
    rw [frOf_of h0 (by rw [hss]; exact n)] at f2
    exact f2
  have out0 : ∀ a u, H a = some u → a ∉ o.fp p → H0 a = none → H0' a = none := fun a u h n q => st'.dis a u (by rw [frOf_of q (by rw [hss]; exact n)]; exact h)
  refine ⟨st'.ex, fun a u h => keep a u (st.fr a u h) (notin a u h), fun a u h => out0 a u (st.fr a u h) (notin a u h) (st.dis a u h), by simp [st.len], fun j s h => ?_, ?_, fun a ha => ?_⟩
  · by_cases ej : i = j
    · subst ej
      rw [List.getElem?_set_self hi] at h
      cases h
      exact ⟨(st.own_at hS).1, (st'.own_at h').2⟩
    · rw [List.getElem?_set_ne ej] at h
      exact (st.sl j s h).keep e fun a ha u hu => keep a u hu fun m => two_slots ej hS h st.nd m ha
  · refine nd_set st.nd (fp_nd st'.nd h') fun j s hj hs a ha m => ?_
    by_cases q : a ∈ o.fp p
    · exact two_slots (Ne.symm hj) hS hs st.nd q m
    · obtain ⟨u, hu⟩ := hsome a (mem_fp (List.mem_iff_getElem?.mpr ⟨j, hs⟩) m)
      rw [fresh a ha q] at hu; cases hu
  · rcases mem_set ha with ha | ha
    · have ha : a ∈ o'.fp p := ha
      refine ⟨(st'.free a (m' a ha)).1, ?_⟩
      by_cases q : a ∈ o.fp p
      · exact (st.free a (mS a q)).2
      · cases w : Fr a with
        | none => rfl
        | some u => have := st.fr a u w; rw [fresh a ha q] at this; cases this
    · by_cases q : a ∈ o.fp p
      · refine ⟨?_, (st.free a (mS a q)).2⟩
        by_cases q2 : a ∈ o'.fp p
        · exact (st'.free a (m' a q2)).1
        · exfalso
          -- the object's address that is no more held: it stands in no slot
          obtain ⟨u, hu, mm⟩ := List.mem_flatMap.mp ‹a ∈ (S.set i (.own p o')).flatMap Slot.fp›
          obtain ⟨j, hj⟩ := List.mem_iff_getElem?.mp hu
          by_cases ej : i = j
          · subst ej
            rw [List.getElem?_set_self hi] at hj
            cases hj
            exact q2 mm
          · rw [List.getElem?_set_ne ej] at hj
            exact two_slots ej hS hj st.nd q mm
      · obtain ⟨u, hu⟩ := hsome a ha
        exact ⟨out0 a u hu q (st.free a ha).1, (st.free a ha).2⟩
theorem call_inC {i : Nat} {p : Addr} {o : OD} {ds : List Dt} (st : StR K g Fr H0 H σ S) (hS : S[i]? = some (.own p o)) (r : RepL K g H0 vs ds) : StR K g (frOf H0 H (.own p o :: ds.map .im)) H0 H ((V.ref p :: vs).map some) (.own p o :: ds.map .im) :=
  call_in st (.own (List.mem_iff_getElem?.mpr ⟨i, hS⟩) (argIm r)) (by rw [List.flatMap_cons, im_fp, List.append_nil]; exact fp_nd st.nd hS)
/-- the callee's first state with its own object changed, an answer behind it -/
theorem back_ofC {p : Addr} {o o' : OD} {ds : List Dt} {τ : L2.St} {σ' : L2.St} {S' : List Slot} {H0' H' : Hp} {j : Nat} {v : V} {d : Dt} (st : StR K g Fr H0 H τ (.own p o :: ds.map .im)) (e : Ex H0 H0') (st' : StR K g Fr H0' H' σ' S') (h' : S'[j]? = some (.own p o')) (rv : Rep K g H0' v d) :
    StR K g Fr H0' H' (τ ++ [some v]) ((.own p o' :: ds.map .im) ++ [.im d]) := by
  have fpe : ((Slot.own p o' :: ds.map Slot.im).flatMap Slot.fp) = o'.fp p := by rw [List.flatMap_cons, im_fp, List.append_nil]; rfl
  refine StR.snoc_im ⟨st'.ex, st'.fr, st'.dis, by have := st.len; simpa using this, fun i s h => ?_, by rw [fpe]; exact fp_nd st'.nd h', fun a ha => ?_⟩ rv
  · cases i with
    | zero => simp at h; subst h; exact ⟨(st.own_at (i := 0) rfl).1, (st'.own_at h').2⟩
    | succ i =>
      have h2 : (Slot.own p o :: ds.map Slot.im)[i + 1]? = some s := by simpa using h
      have hm : s ∈ ds.map Slot.im := List.mem_iff_getElem?.mpr ⟨i, by simpa using h⟩
      obtain ⟨d', _, rfl⟩ := List.mem_map.mp hm
      obtain ⟨w, h3, h4⟩ := st.sl (i + 1) _ h2
      exact ⟨w, h3, h4.mono e⟩
  · rw [fpe] at ha
    exact st'.free a (mem_fp (List.mem_iff_getElem?.mpr ⟨j, h'⟩) ha)
/-- an own cart's list put where it stood -/
theorem cart_put {i : Nat} {p dx l : Addr} {cs es : List Dt} {ws : List V} (st : StR K g Fr H0 H σ S) (hS : S[i]? = some (.own p (.cart dx l cs))) (r : RepL K g H0 ws es) : StR K g Fr H0 (upd H l (.lst ws)) σ (S.set i (.own p (.cart dx l es))) := by
  have hi : i < S.length := (List.getElem?_eq_some_iff.mp hS).1
  have hml : l ∈ (OD.cart dx l cs).fp p := by simp [OD.fp]
  have hp := st.free l (mem_fp (List.mem_iff_getElem?.mpr ⟨i, hS⟩) hml)
  have nd3 : [p, dx, l].Nodup := fp_nd st.nd hS
  have hpl : p ≠ l ∧ dx ≠ l := by simp at nd3; exact ⟨nd3.1.2, nd3.2⟩
  obtain ⟨hσ, h1, h2, ws0, h3, r0⟩ := st.own_at hS
  have fpe : (OD.cart dx l es).fp p = (OD.cart dx l cs).fp p := rfl
  refine ⟨st.ex.mut hp.1, st.fr.mut hp.2, st.dis, by simp [st.len], fun j s h => ?_, by rw [fp_set fpe hS]; exact st.nd, fun a ha => st.free a (by rw [fp_set fpe hS] at ha; exact ha)⟩
  by_cases e : i = j
  · subst e
    rw [List.getElem?_set_self hi] at h
    cases h
    exact ⟨hσ, by rw [upd_ne hpl.1]; exact h1, by rw [upd_ne hpl.2]; exact h2, ws, upd_same, r⟩
  · rw [List.getElem?_set_ne e] at h
    refine (st.sl j s h).keep (Ex.refl _) fun a ha u hu => ?_
    rw [upd_ne]
    · exact hu
    · intro e2
      subst e2
      exact two_slots e hS h st.nd hml ha
/-- the object that is being made takes its list over -/
theorem cart_mk {i : Nat} {p dx l : Addr} {cs : List Dt} {v : V} (st : StR K g Fr H0 H (σ ++ [some v]) (S ++ [.own l (.lst cs)])) (hS : S[i]? = some (.own p (.obj g.cart dx []))) : StR K g Fr H0 (upd H p (.ins g.cart dx [("states", .ref l)])) σ (S.set i (.own p (.cart dx l cs))) := by
  have st1 := st.unsnoc
  have hi : i < S.length := (List.getElem?_eq_some_iff.mp hS).1
  have hmp : p ∈ (OD.obj g.cart dx []).fp p := by simp [OD.fp]
  have hp := st1.free p (mem_fp (List.mem_iff_getElem?.mpr ⟨i, hS⟩) hmp)
  obtain ⟨hσ, hdx, fv0, hp0, r0⟩ := st1.own_at hS
  have hlS : (S ++ [Slot.own l (.lst cs)])[S.length]? = some (.own l (.lst cs)) := by simp
  obtain ⟨_, ws, hl, rl⟩ := st.own_at hlS
  have hne : dx ≠ p := fun e => by subst e; rw [hdx] at hp0; cases hp0
  have hlp : l ≠ p := fun e => by subst e; rw [hl] at hp0; cases hp0
  have hld : l ≠ dx := fun e => by subst e; rw [hl] at hdx; cases hdx
  have outl : ∀ (j : Nat) (s : Slot), S[j]? = some s → l ∉ s.fp := fun j s hj m => by
    have hj' : j < S.length := (List.getElem?_eq_some_iff.mp hj).1
    exact two_slots (i := S.length) (j := j) (by omega) hlS (by rw [List.getElem?_append_left hj']; exact hj) st.nd (by simp [Slot.fp, OD.fp]) m
  refine ⟨st1.ex.mut hp.1, st1.fr.mut hp.2, st1.dis, by simp [st1.len], fun j s h => ?_, ?_, fun a ha => ?_⟩
  · by_cases e : i = j
    · subst e
      rw [List.getElem?_set_self hi] at h
      cases h
      exact ⟨hσ, upd_same, by rw [upd_ne hne]; exact hdx, ws, by rw [upd_ne hlp]; exact hl, rl⟩
    · rw [List.getElem?_set_ne e] at h
      refine (st1.sl j s h).keep (Ex.refl _) fun a ha u hu => ?_
      rw [upd_ne]
      · exact hu
      · intro e2
        subst e2
        exact two_slots e hS h st1.nd hmp ha
  · refine nd_set st1.nd (by simp [Slot.fp, OD.fp, hne.symm, hlp.symm, hld.symm]) fun j s hj hs a ha m => ?_
    have ha : a = p ∨ a = dx ∨ a = l := by simpa [Slot.fp, OD.fp] using ha
    rcases ha with rfl | rfl | rfl
    · exact two_slots (Ne.symm hj) hS hs st1.nd hmp m
    · exact two_slots (Ne.symm hj) hS hs st1.nd (by simp [Slot.fp, OD.fp]) m
    · exact outl j s hs m
  · rcases mem_set ha with ha | ha
    · have ha : a = p ∨ a = dx ∨ a = l := by simpa [Slot.fp, OD.fp] using ha
      rcases ha with rfl | rfl | rfl
      · exact hp
      · exact st1.free a (mem_fp (List.mem_iff_getElem?.mpr ⟨i, hS⟩) (by simp [Slot.fp, OD.fp]))
      · exact st.free a (mem_fp (List.mem_iff_getElem?.mpr ⟨S.length, hlS⟩) (by simp [Slot.fp, OD.fp]))
    · exact st1.free a ha
end
section
variable {X : Cx} {g : Cl} {Fr : Hp} {S : List Slot} {R : Dt → List Slot → Prop} {T : Slot → List Slot → Prop} {D : DE} {pos : Pos} {k : Nat} {F : CF} {p dx l : Addr} {cs0 : List Dt}
theorem call_postC {i : Nat} {σ : L2.St} {H0 H : Hp} {vs : List V} {cs ds : List Dt} (hm : MonoC F) (st : StR X.K g Fr H0 H σ S) (hS : S[i]? = some (.own p (.cart dx l cs))) (r : RepL X.K g H0 vs ds) (h : F cs ds fun d cs' => R d (S.set i (.own p (.cart dx l cs')))) : spC X.K g F (.ref p :: vs) H (PostE X.K g Fr σ H0 R) E0 :=
  ⟨frOf H0 H (.own p (.cart dx l cs) :: ds.map .im), H0, p, dx, l, cs, ds, call_inC st hS r, hm cs ds _ _ (fun d cs' q v H0' H' ex st' => ⟨d, _, H0', ex, call_outC st hS ex st' rfl, st'.last, q⟩) h⟩
/-- o.m(e, ..), o an own cart -/
theorem ew_methC (i : Nat) {x : Str} {e : Expr} {es : List Expr} {m : Str} {xp apos : Pos} {pl : Sem Bool} (C : CarC X.K g) (G : MtC X.prog X.w X.K X.mg X.base g k m F) (hr : Room k X.A) (hS : S[i]? = some (.own p (.cart dx l cs0)))
    (h : AW X g Fr (e :: es) S fun ss S1 => ∃ ds cs, imAll ss = some ds ∧ S1[i]? = some (.own p (.cart dx l cs)) ∧ F cs ds fun d cs' => R d (S1.set i (.own p (.cart dx l cs')))) (hl : (m == ("states" : Str)) = false := by decide)
    (hN : X.N[i]? = some x := by rfl) (hv : Vis X.env.scope x := by first | exact Or.inl rfl | exact Or.inr (Or.inl rfl) | exact Or.inr (Or.inr rfl)) (hd : (x == ("__debug__" : Str)) = false := by decide) (hcd : (x == ("__classdict__" : Str)) = false := by decide)
    (hst : starEach (e :: es) X.env = (false, eval e X.env) :: starEach es X.env := by rfl) (hpl : (backTo pos (starEach es X.env)).any (·.1) = false := by rfl)
    (ht : eval (.Call (.Attribute (.Name x xp) m apos) (e :: es) [] pos) X.env = (do
      let ov ← eval (.Name x xp) X.env
      standAt apos.atName
      let (f, first) ← holding [ov] (getMethod ov m pl)
      callWith pos f first (backTo pos (starEach (e :: es) X.env)) (backToKw pos (keywordEach [] X.env))) := by rfl) : EW X g Fr (.Call (.Attribute (.Name x xp) m apos) (e :: es) [] pos) S R := by
  obtain ⟨f, hm, Gf⟩ := G.ex
  refine fun σ H0 H st => sem_of (t := fun σ H Q => tVar i σ H fun x H1 => ∃ a dx fs, x = .ref a ∧ H1 a = some (.ins g.cart dx fs) ∧ fs.lookup m = none ∧ tSemA X (e :: es) σ H1 fun vs H2 => spC X.K g F (x :: vs) H2 Q E0) ⟨fun pins s σ H Q I hq => ?_⟩ ?_
  · refine PySem.W.methodCall_KW (pl := pl) (thn ((pe_var hN hv hd hcd).run pins s σ H _ I hq) fun u s1 z => ?_) ht
    obtain ⟨x, H1, I1, rx, a, dx, fs, ex, ea, l, q⟩ := z
    subst ex
    cases (show u = Value.ref a from rx)
    refine getmeth_ok I1 ea C.isi.cl hm l ?_
    refine PySem.W.callWith_K (first := [.ref a]) (h₀ := X.base) I.ok.mod.kin hm.kp (thn (q pos pins s1 I1) fun us s2 z => ?_) hst hpl
    obtain ⟨vs, H2, I2, r, q2⟩ := z
    exact ⟨I2.kIn, wpAny_call (run_fnR (us := .ref a :: us) (vs := .ref a :: vs) Gf hr pass0 I2 (.cons rfl r) q2)⟩
  · obtain ⟨hσ, h1, _⟩ := st.own_at hS
    refine ⟨.ref p, hσ, p, dx, _, rfl, h1, ?_, semA_mono (h σ H0 H st) fun vs H2 ⟨ss, S2, H02, e2, st2, ra, ds, cs, hds, hS2, q2⟩ => ?_⟩
    · show List.lookup m [(("states" : Str), V.ref l)] = none
      simp only [List.lookup, hl]
    · obtain ⟨Fr', H0', p', dx', l', cs', ds', a, b⟩ := call_postC G.mono st2 hS2 (ra.imAll hds) q2
      exact ⟨Fr', H0', p', dx', l', cs', ds', a, G.mono _ _ _ _ (fun d c w v H0'' H'' x1 x2 => (w v H0'' H'' x1 x2).back e2) b⟩
/-- o.m() -/
theorem ew_meth0C (i : Nat) {x m : Str} {xp apos : Pos} {pl : Sem Bool} {cs : List Dt} (C : CarC X.K g) (G : MtC X.prog X.w X.K X.mg X.base g k m F) (hr : Room k X.A) (hS : S[i]? = some (.own p (.cart dx l cs)))
    (h : F cs [] fun d cs' => R d (S.set i (.own p (.cart dx l cs')))) (hl : (m == ("states" : Str)) = false := by decide)
    (hN : X.N[i]? = some x := by rfl) (hv : Vis X.env.scope x := by first | exact Or.inl rfl | exact Or.inr (Or.inl rfl) | exact Or.inr (Or.inr rfl)) (hd : (x == ("__debug__" : Str)) = false := by decide) (hcd : (x == ("__classdict__" : Str)) = false := by decide)
    (ht : eval (.Call (.Attribute (.Name x xp) m apos) [] [] pos) X.env = (do
      let ov ← eval (.Name x xp) X.env
      standAt apos.atName
      let (f, first) ← holding [ov] (getMethod ov m pl)
      callWith pos f first (backTo pos (starEach [] X.env)) (backToKw pos (keywordEach [] X.env))) := by rfl) : EW X g Fr (.Call (.Attribute (.Name x xp) m apos) [] [] pos) S R := by
  obtain ⟨f, hm, Gf⟩ := G.ex
  refine fun σ H0 H st => sem_of (t := fun σ H Q => tVar i σ H fun x H1 => ∃ a dx fs, x = .ref a ∧ H1 a = some (.ins g.cart dx fs) ∧ fs.lookup m = none ∧ spC X.K g F [x] H1 Q E0) ⟨fun pins s σ H Q I hq => ?_⟩ ?_
  · refine PySem.W.methodCall_KW (pl := pl) (thn ((pe_var hN hv hd hcd).run pins s σ H _ I hq) fun u s1 z => ?_) ht
    obtain ⟨x, H1, I1, rx, a, dx, fs, ex, ea, l, q⟩ := z
    subst ex
    cases (show u = Value.ref a from rx)
    refine getmeth_ok I1 ea C.isi.cl hm l ?_
    exact PySem.W.callWith_K0 (first := [.ref a]) I1.kIn hm.kp (wpAny_call (run_fnR (us := [.ref a]) (vs := [.ref a]) Gf hr pass0 I1 (.cons rfl .nil) q))
  · obtain ⟨hσ, h1, _⟩ := st.own_at hS
    refine ⟨.ref p, hσ, p, dx, _, rfl, h1, ?_, call_postC G.mono st hS .nil h⟩
    show List.lookup m [(("states" : Str), V.ref l)] = none
    simp only [List.lookup, hl]
/-! ### the list of states -/
/-- o.states[e] -/
theorem ew_ixC (i : Nat) {x : Str} {b : Expr} {xp ap : Pos} (C : CarC X.K g) (hS : S[i]? = some (.own p (.cart dx l cs0))) (h : EW X g Fr b S fun d2 S2 => ∃ cs k d, S2[i]? = some (.own p (.cart dx l cs)) ∧ d2 = .int k ∧ atI cs k = some d ∧ R d S2) (hp : PlainIx b := by exact fun _ _ => rfl)
    (hN : X.N[i]? = some x := by rfl) (hv : Vis X.env.scope x := by first | exact Or.inl rfl | exact Or.inr (Or.inl rfl) | exact Or.inr (Or.inr rfl)) (hd : (x == ("__debug__" : Str)) = false := by decide) (hcd : (x == ("__classdict__" : Str)) = false := by decide)
    (hb : attributeBase (.Name x xp) "states" X.env (eval (.Name x xp) X.env) = eval (.Name x xp) X.env := by rfl) : EW X g Fr (.Subscript (.Attribute (.Name x xp) "states" ap) b pos) S R :=
  ew_of (pe_ix ix_list (pe_fld (pe_var hN hv hd hcd) hb) pe_sem hp) fun σ H0 H st => by
    obtain ⟨hσ, h1, h2, vs0, h3, r0⟩ := st.own_at hS
    exact ⟨.ref p, hσ, p, g.cart, dx, _, .ref l, rfl, h1, C.isi.cl, C.nS, rfl, sem_mono (h σ H0 H st) fun v2 H2 ⟨d2, S2, H02, e2, st2, r2, cs, k, d, hx, hk, ha, q⟩ => by
      subst hk
      cases r2
      obtain ⟨_, _, _, ws, e, lr⟩ := st2.own_at hx
      obtain ⟨v, hv, rv⟩ := atI_rep lr ha
      exact ⟨l, ws, k, v, rfl, rfl, sq_of e, hv, ⟨d, S2, H02, e2, st2, rv, q⟩⟩⟩
/-- len(o.states) -/
theorem ew_lenC (i : Nat) {x : Str} {xp ap np : Pos} {cs : List Dt} (C : CarC X.K g) (hm : X.mg "len" = none) (hS : S[i]? = some (.own p (.cart dx l cs))) (h : R (.int cs.length) S) (hg : Gl X "len" := by rfl)
    (hN : X.N[i]? = some x := by rfl) (hv : Vis X.env.scope x := by first | exact Or.inl rfl | exact Or.inr (Or.inl rfl) | exact Or.inr (Or.inr rfl)) (hd : (x == ("__debug__" : Str)) = false := by decide) (hcd : (x == ("__classdict__" : Str)) = false := by decide)
    (hb : attributeBase (.Name x xp) "states" X.env (eval (.Name x xp) X.env) = eval (.Name x xp) X.env := by rfl)
    (he : starEach (.Attribute (.Name x xp) "states" ap :: []) X.env = (false, eval (.Attribute (.Name x xp) "states" ap) X.env) :: starEach [] X.env := by rfl) (hpl : (backTo pos (starEach [] X.env)).any (·.1) = false := by rfl) : EW X g Fr (.Call (.Name "len" np) [.Attribute (.Name x xp) "states" ap] [] pos) S R :=
  ew_of (pe_callB call_len_seq hg hm boot_len (pa_cons (pe_fld (pe_var hN hv hd hcd) hb) pa_nil he) (by decide) (by decide) he hpl) fun σ H0 H st => by
    obtain ⟨hσ, h1, h2, vs, h3, r0⟩ := st.own_at hS
    refine ⟨.ref p, hσ, p, g.cart, dx, _, .ref l, rfl, h1, C.isi.cl, C.nS, rfl, ?_⟩
    exact ⟨l, vs, rfl, .inl (sq_of h3), by rw [r0.length]; exact done st (.int _) h⟩
/-- o.states[a:b] -/
theorem ew_slC (i : Nat) {x : Str} {lo hi : Option Expr} {xp ap p2 : Pos} (C : CarC X.K g) (hS : S[i]? = some (.own p (.cart dx l cs0))) (h : OW X g Fr lo S fun a S2 => OW X g Fr hi S2 fun u S3 => ∃ cs, S3[i]? = some (.own p (.cart dx l cs)) ∧ R (.lst (cutD cs a u)) S3)
    (hN : X.N[i]? = some x := by rfl) (hv : Vis X.env.scope x := by first | exact Or.inl rfl | exact Or.inr (Or.inl rfl) | exact Or.inr (Or.inr rfl)) (hd : (x == ("__debug__" : Str)) = false := by decide) (hcd : (x == ("__classdict__" : Str)) = false := by decide)
    (hb : attributeBase (.Name x xp) "states" X.env (eval (.Name x xp) X.env) = eval (.Name x xp) X.env := by rfl) : EW X g Fr (.Subscript (.Attribute (.Name x xp) "states" ap) (.Slice lo hi none p2) pos) S R :=
  ew_of (pe_slice sl_list (pe_fld (pe_var hN hv hd hcd) hb) po_sem po_sem) fun σ H0 H st => by
    obtain ⟨hσ, h1, h2, vs, h3, r0⟩ := st.own_at hS
    refine ⟨.ref p, hσ, p, g.cart, dx, _, .ref l, rfl, h1, C.isi.cl, C.nS, rfl, ow_run h st fun a S2 H02 H2 e2 st2 h2 => ow_run h2 st2 fun u S3 H03 H3 e3 st3 ⟨cs, hS3, q⟩ => ?_⟩
    obtain ⟨_, _, _, ws, e, lr⟩ := st3.own_at hS3
    exact ⟨_, _, rfl, sq_of e, fun p hp => (doneN st3 hp (fun H4 ex e4 => .lst e4 (cut_rep (lr.mono ex))) q).back (e2.trans e3)⟩
/-- o.states.append(e) -/
theorem s_appC (i : Nat) {x : Str} {e : Expr} {xp ap apos cpos : Pos} (C : CarC X.K g) (hS : S[i]? = some (.own p (.cart dx l cs0))) (h : EW X g Fr e S fun d S1 => ∃ cs, S1[i]? = some (.own p (.cart dx l cs)) ∧ cs.length < 100000 ∧ D.nx (S1.set i (.own p (.cart dx l (cs ++ [d])))))
    (hN : X.N[i]? = some x := by rfl) (hv : Vis X.env.scope x := by first | exact Or.inl rfl | exact Or.inr (Or.inl rfl) | exact Or.inr (Or.inr rfl)) (hd : (x == ("__debug__" : Str)) = false := by decide) (hcd : (x == ("__classdict__" : Str)) = false := by decide)
    (hb : attributeBase (.Name x xp) "states" X.env (eval (.Name x xp) X.env) = eval (.Name x xp) X.env := by rfl)
    (hs : swapsWith (.Call (.Attribute (.Attribute (.Name x xp) "states" ap) "append" apos) [e] [] cpos) none pos.line X.env = pure false := by rfl)
    (hbase : attributeBase (.Attribute (.Name x xp) "states" ap) "append" X.env (eval (.Attribute (.Name x xp) "states" ap) X.env) = eval (.Attribute (.Name x xp) "states" ap) X.env := by rfl)
    (hfew : ((backTo cpos (starEach (e :: []) X.env)).all (fun x => !x.1) && (backToKw cpos (keywordEach [] X.env)).all (fun x => x.1.isSome) && decide ((e :: []).length + ([] : List Keyword).length + (if ([] : List Keyword).isEmpty then 0 else 1) < 30)) = true := by rfl)
    (hline : (apos.endLine == cpos.line) = true := by rfl) (hs1 : starEach (e :: []) X.env = (false, eval e X.env) :: starEach [] X.env := by rfl) (hplain : (backTo cpos (starEach [] X.env)).any (·.1) = false := by rfl) :
    S1 X g Fr (.Expr (.Call (.Attribute (.Attribute (.Name x xp) "states" ap) "append" apos) [e] [] cpos) pos) S D :=
  fun σ H0 H st => semS_of (ps_expr (pe_bm PySem.F.plainAttrs_list PySem.F.slot_list_append PySem.F.type_list_append mt_append (pe_fld (pe_var hN hv hd hcd) hb) (pa_cons pe_sem pa_nil hs1) hbase hfew hline hs1 hplain) hs) (by
    obtain ⟨hσ, h1, h2, vs, h3, r0⟩ := st.own_at hS
    refine ⟨.ref p, hσ, p, g.cart, dx, _, .ref l, rfl, h1, C.isi.cl, C.nS, rfl, ?_, ?_⟩
    · exact .inl ⟨rfl, vs, sq_of h3⟩
    · refine sem_mono (h σ H0 H st) fun v H1 ⟨d, S1, H01, e1, st1, r, cs, hS1, hl, q⟩ => ?_
      obtain ⟨_, _, _, ws, h4, r4⟩ := st1.own_at hS1
      exact ⟨l, ws, v, rfl, rfl, h4, by rw [r4.length]; exact Nat.lt_of_lt_of_le hl (by decide), _, H01, e1, cart_put st1 hS1 (r4.append (.cons r .nil)), q⟩)
theorem RepL.dropLast {K : PySem.W.Frag} {H : Hp} : ∀ {vs : List V} {ds : List Dt}, RepL K g H vs ds → RepL K g H vs.dropLast ds.dropLast
  | _, _, .nil => .nil
  | _, _, .cons _ .nil => .nil
  | _, _, .cons r (.cons q t) => .cons r (RepL.dropLast (.cons q t))
/-- o.states.pop() -/
theorem s_popC (i : Nat) {x : Str} {xp ap apos cpos : Pos} {cs : List Dt} (C : CarC X.K g) (hS : S[i]? = some (.own p (.cart dx l cs))) (hne : cs ≠ []) (h : D.nx (S.set i (.own p (.cart dx l cs.dropLast))))
    (hN : X.N[i]? = some x := by rfl) (hv : Vis X.env.scope x := by first | exact Or.inl rfl | exact Or.inr (Or.inl rfl) | exact Or.inr (Or.inr rfl)) (hd : (x == ("__debug__" : Str)) = false := by decide) (hcd : (x == ("__classdict__" : Str)) = false := by decide)
    (hb : attributeBase (.Name x xp) "states" X.env (eval (.Name x xp) X.env) = eval (.Name x xp) X.env := by rfl)
    (hs : swapsWith (.Call (.Attribute (.Attribute (.Name x xp) "states" ap) "pop" apos) [] [] cpos) none pos.line X.env = pure false := by rfl)
    (hbase : attributeBase (.Attribute (.Name x xp) "states" ap) "pop" X.env (eval (.Attribute (.Name x xp) "states" ap) X.env) = eval (.Attribute (.Name x xp) "states" ap) X.env := by rfl)
    (hline : (apos.endLine == cpos.line) = true := by rfl) :
    S1 X g Fr (.Expr (.Call (.Attribute (.Attribute (.Name x xp) "states" ap) "pop" apos) [] [] cpos) pos) S D :=
  fun σ H0 H st => semS_of (ps_expr (pe_bm0 PySem.F.plainAttrs_list PySem.F.slot_list_pop PySem.F.type_list_pop mt_pop (pe_fld (pe_var hN hv hd hcd) hb) hbase hline) hs) (by
    obtain ⟨hσ, h1, h2, vs, h3, r0⟩ := st.own_at hS
    refine ⟨.ref p, hσ, p, g.cart, dx, _, .ref l, rfl, h1, C.isi.cl, C.nS, rfl, ?_, ?_⟩
    · exact .inl ⟨rfl, vs, sq_of h3⟩
    · have hl := r0.length
      have hcl : cs.length ≠ 0 := fun e => hne (List.length_eq_zero_iff.mp e)
      obtain ⟨u, hu⟩ : ∃ u, vs[vs.length - 1]? = some u := ⟨vs[vs.length - 1]'(by omega), List.getElem?_eq_getElem (by omega)⟩
      exact ⟨l, vs, u, rfl, rfl, h3, hu, _, H0, Ex.refl _, cart_put st hS r0.dropLast, h⟩)
/-- self.states = [..], self a cart being made -/
theorem s_mkC (i : Nat) {x : Str} {e : Expr} {xp pos' : Pos} (C : CarC X.K g) (h : EF X g Fr e S fun r S1 => ∃ l cs, r = .own l (.lst cs) ∧ S1[i]? = some (.own p (.obj g.cart dx [])) ∧ D.nx (S1.set i (.own p (.cart dx l cs))))
    (hN : X.N[i]? = some x := by rfl) (hv : Vis X.env.scope x := by first | exact Or.inl rfl | exact Or.inr (Or.inl rfl) | exact Or.inr (Or.inr rfl)) (hd : (x == ("__debug__" : Str)) = false := by decide) (hcd : (x == ("__classdict__" : Str)) = false := by decide)
    (hs : swapsWith e (some (.Attribute (.Name x xp) "states" pos')) pos.line X.env = pure false := by rfl) : S1 X g Fr (.Assign [.Attribute (.Name x xp) "states" pos'] e pos) S D :=
  fun σ H0 H st => semS_of (ps_fld (pe_var hN hv hd hcd) pe_sem hs) (sem_mono (h σ H0 H st) fun v H1 ⟨r, S1, H01, e1, st1, l, cs, er, hS1, q⟩ => by
    subst er
    obtain ⟨hσ, hdx, fv, hp, kr⟩ := st1.unsnoc.own_at hS1
    have hv : v = .ref l := by
      have hl : σ.length = S1.length := by simpa using st1.len
      have := (st1.own_at (i := S1.length) (p := l) (o := .lst cs) (by simp)).1
      rw [List.getElem?_append_right (by omega)] at this
      simpa [hl] using this
    subst hv
    have hfv : fv = [] := by
      have := kr.1
      simpa using this
    subst hfv
    exact ⟨.ref p, hσ, p, g.cart, dx, [], rfl, hp, C.isi.cl, C.nS, by simp, _, H01, e1, cart_mk st1 hS1, q⟩)
/-! ### a cart: made -/
def spCI (K : PySem.W.Frag) (g : Cl) : Sp := fun vs H Q _ => ∃ Fr H0 p dx ps, StR K g Fr H0 H (vs.map some) (.own p (.obj g.cart dx []) :: [Dt.shop ps].map Slot.im) ∧
  ∀ l v H0' H', v = V.non → Ex H0 H0' → StR K g Fr H0' H' (vs.map some ++ [some v]) ((.own p (.cart dx l [.tup [.shop ps, .int 0]]) :: [Dt.shop ps].map Slot.im) ++ [.im .non]) → Q v H'
structure MkC (P : Program) (w : World) (K : PySem.W.Frag) (mg : Str → Option Value) (base : Heap) (g : Cl) (k : Nat) : Prop where
  at_ : mg "Cart" = some (.ref g.cart)
  ex : ∃ f : Addr, Mk K g.cart f ∧ FnR P w K mg base CX0 k f (spCI K g)
theorem ef_makeC {e : Expr} {q : Pos} (M : MkC X.prog X.w X.K X.mg X.base g k) (hr : Room (k + 1) X.A) (h : EW X g Fr e S fun d S1 => ∃ ps, d = .shop ps ∧ ∀ x dx l, T (.own x (.cart dx l [.tup [.shop ps, .int 0]])) S1) (hg : Gl X "Cart" := by rfl)
    (he : starEach (e :: []) X.env = (false, eval e X.env) :: starEach [] X.env := by rfl) (hpl : (backTo pos (starEach [] X.env)).any (·.1) = false := by rfl) : EF X g Fr (.Call (.Name "Cart" q) [e] [] pos) S T := by
  obtain ⟨f, Mf, G⟩ := M.ex
  refine fun σ H0 H st => sem_of (StX.pe_makeR Mf G hr hg M.at_ pass0 (pa_cons pe_sem pa_nil he) (by decide) he hpl) (sem_mono (h σ H0 H st) fun v H1 ⟨d, S1, H01, e1, st1, r, ps, ed, q⟩ => ?_)
  subst ed
  intro x dx hx hdx hne
  have st2 : StR X.K g Fr H01 (upd (upd H1 dx (.own x)) x (.ins g.cart dx [])) σ S1 := st1.grow ((Ex.new hdx).trans (Ex.new (by rw [upd_ne hne.symm]; exact hx)))
  have st3 : StR X.K g Fr H01 (upd (upd H1 dx (.own x)) x (.ins g.cart dx [])) (σ ++ [some (.ref x)]) (S1 ++ [.own x (.obj g.cart dx [])]) := by
    refine st2.snoc_own ⟨by rw [upd_ne hne, upd_same], [], upd_same, rfl, .nil⟩ (fun a ha => ?_) (by simp [OD.fp, hne.symm])
    have ha : a = x ∨ a = dx := by simpa [OD.fp] using ha
    have hn : H1 a = none := by rcases ha with rfl | rfl; exact hx; exact hdx
    exact ⟨st1.ex.free hn, st1.fr.free hn, notin_fp st1 hn⟩
  have hS3 : (S1 ++ [Slot.own x (.obj g.cart dx [])])[S1.length]? = some (.own x (.obj g.cart dx [])) := by simp
  refine ⟨frOf H01 _ (.own x (.obj g.cart dx []) :: [Dt.shop ps].map .im), H01, x, dx, ps, call_inC st3 hS3 (.cons r .nil), fun l w H0' H' ew ex st' => ⟨ew, ?_⟩⟩
  have := call_outC st3 hS3 ex st' rfl
  refine ⟨.own x (.cart dx l [.tup [.shop ps, .int 0]]), S1, H0', e1.trans ex, ?_, q x dx l⟩
  simpa using this
/-! ### a method's body -/
def deC (p dx l : Addr) (R : Dt → List Dt → Prop) : DE := { nx := fun S => ∃ cs, S[0]? = some (.own p (.cart dx l cs)) ∧ R .non cs, rt := fun r S => ∃ cs d, S[0]? = some (.own p (.cart dx l cs)) ∧ r = .im d ∧ R d cs }
end
theorem fn_bodyC {P : Program} {w : World} {K : PySem.W.Frag} {mg : Str → Option Value} {base : Heap} {g : Cl} {x qual : Str} {st : Stmt} {f : Addr} {fd : FuncData} {N ps : List Str} {k : Nat} {F : CF} (Fn : Fun K x qual st f fd) (Sc : FnScope N ps (defScope st)) (len : ∀ cs ds R, F cs ds R → ds.length + 1 = ps.length)
    (body : ∀ (cdv : Value) (A : Around) (outer : List Env) (s : Shared) (H : Hp) (E : XK) (Fr : Hp) (p dx l : Addr) (cs ds : List Dt) (R : Dt → List Dt → Prop), Room k (A.deeper (envOfC qual (defScope st) s.heap.objs.size f cdv)) → F cs ds R →
      SW (cxOf CX0 P w K mg base N qual (defScope st) f cdv A outer s H E).nox g Fr (defBody st) ((.own p (.cart dx l cs) :: ds.map Slot.im) ++ List.replicate (N.length - ps.length) .no) (deC p dx l R)) : FnOk P w K mg base CX0 (k + 1) f fd ps (spC K g F) := by
  refine Fn.ok Sc (fun vs H Q E h => ?_) (fun cdv A outer s H vs Q E hr h => ?_)
  · obtain ⟨Fr, H0, p, dx, l, cs, ds, s0, hF⟩ := h
    have h1 := s0.len
    have h2 := len _ _ _ hF
    simp at h1
    omega
  · obtain ⟨Fr, H0, p, dx, l, cs, ds, s0, hF⟩ := h
    have hl := len _ _ _ hF
    have hvl : vs.length = ds.length + 1 := by simpa using s0.len
    refine ⟨_, pss_sem, ?_⟩
    have s1 : StR K g Fr H0 H (L2.start N vs) ((.own p (.cart dx l cs) :: ds.map Slot.im) ++ List.replicate (N.length - ps.length) .no) := by
      unfold L2.start
      rw [hvl, hl]
      have aux : ∀ (n : Nat) (σ : L2.St) (S : List Slot), StR K g Fr H0 H σ S → StR K g Fr H0 H (σ ++ List.replicate n none) (S ++ List.replicate n .no) := by
        intro n σ S st
        have hz : (List.replicate n Slot.no).flatMap Slot.fp = [] := by
          induction n with
          | zero => rfl
          | succ n ih => rw [List.replicate_succ, List.flatMap_cons, ih]; rfl
        refine ⟨st.ex, st.fr, st.dis, by simp [st.len], fun i s h => ?_, by rw [List.flatMap_append, hz, List.append_nil]; exact st.nd, fun a ha => st.free a (by rw [List.flatMap_append, hz, List.append_nil] at ha; exact ha)⟩
        by_cases hi : i < S.length
        · rw [List.getElem?_append_left hi] at h
          rw [List.getElem?_append_left (by rw [st.len]; exact hi)]
          exact st.sl i s h
        · rw [List.getElem?_append_right (by omega), List.getElem?_replicate] at h
          split at h
          · cases h; trivial
          · cases h
      exact aux _ _ _ s0
    refine semSs_mono (body cdv A outer s H E Fr p dx l cs ds _ hr hF _ _ _ s1) ⟨fun σ' H' ⟨S', H0', e, st', cs', h1, q⟩ => ?_, fun v H' ⟨r, S', σ', H0', e, st', cs', d, h1, er, q⟩ => ?_, fun _ _ ⟨_, _, _, _, q⟩ => q.elim, fun _ _ ⟨_, _, _, _, q⟩ => q.elim⟩
    · exact q .non H0' H' e (back_ofC s0 e st' h1 .non)
    · subst er
      exact q v H0' H' e (back_ofC s0 e st'.unsnoc h1 st'.last)
theorem mtc_mk {P : Program} {w : World} {K : PySem.W.Frag} {mg : Str → Option Value} {base : Heap} {g : Cl} {x : Str} {f : Addr} {fd : FuncData} {ps : List Str} {k : Nat} {F : CF} (hm : MonoC F) (h : Meth K g.cart x f) (hb : Binds K fd ps []) (ok : FnOk P w K mg base CX0 k f fd ps (spC K g F)) : MtC P w K mg base g k x F :=
  ⟨hm, f, h, (ok.raw hb .nil).imp fun vs H Q E q => by rw [List.append_nil]; exact q⟩
end DL

set_option Elab.async false
set_option linter.all false
set_option autoImplicit false
set_option maxRecDepth 100000
set_option maxHeartbeats 2000000
/-! The data layer, twenty-ninth part: carts compared, measured, walked two by two. -/
namespace DL
open PySem PySem.Spec PyProof.Rows L2 PK
structure BinC (P : Program) (w : World) (K : PySem.W.Frag) (mg : Str → Option Value) (base : Heap) (g : Cl) (k : Nat) (x : Str) (F : FM) : Prop where
  mono : Mono F
  first : PySem.W.selfFirst K g.cart = true
  ex : ∃ f : Addr, PySem.W.findIn K (.ref g.cart) x = some (some (.ref f)) ∧ PySem.W.isFn K (.ref f) = true ∧ FnR P w K mg base CX0 k f (spS K g F)
theorem binc_mk {P : Program} {w : World} {K : PySem.W.Frag} {mg : Str → Option Value} {base : Heap} {g : Cl} {x : Str} {f : Addr} {fd : FuncData} {ps : List Str} {k : Nat} {F : FM} (hm : Mono F) (first : PySem.W.selfFirst K g.cart = true) (a : PySem.W.findIn K (.ref g.cart) x = some (some (.ref f))) (i : PySem.W.isFn K (.ref f) = true) (hb : Binds K fd ps []) (ok : FnOk P w K mg base CX0 k f fd ps (spS K g F)) : BinC P w K mg base g k x F :=
  ⟨hm, first, f, a, i, (ok.raw hb .nil).imp fun vs H Q E q => by rw [List.append_nil]; exact q⟩
section
variable {K : PySem.W.Frag} {g : Cl} {Fr H0 H : Hp} {σ : L2.St} {S : List Slot}
/-- an own object goes from one name to another -/
theorem StR.move {i j : Nat} {p : Addr} {o : OD} (st : StR K g Fr H0 H σ S) (hi : S[i]? = some (.own p o)) (hj : j < S.length) : StR K g Fr H0 H (σ.set j (some (.ref p))) ((S.set i .no).set j (.own p o)) := by
  have hil : i < S.length := (List.getElem?_eq_some_iff.mp hi).1
  have s1 : StR K g Fr H0 H σ (S.set i .no) := st.forget
  refine (s1.snoc_own (st.own_at hi).2 (fun a ha => ?_) (fp_nd st.nd hi)).take (by rw [List.length_set]; exact hj)
  obtain ⟨f1, f2⟩ := st.free a (mem_fp (List.mem_iff_getElem?.mpr ⟨i, hi⟩) ha)
  refine ⟨f1, f2, fun m => ?_⟩
  obtain ⟨u, hu, mu⟩ := List.mem_flatMap.mp m
  obtain ⟨n, hn⟩ := List.mem_iff_getElem?.mp hu
  by_cases e : i = n
  · subst e
    rw [List.getElem?_set_self hil] at hn
    cases hn
    simp [Slot.fp] at mu
  · rw [List.getElem?_set_ne e] at hn
    exact two_slots e hi hn st.nd ha mu
end
section
variable {X : Cx} {g : Cl} {Fr : Hp} {S : List Slot} {R : Dt → List Slot → Prop} {T : Slot → List Slot → Prop} {D : DE} {pos : Pos} {k : Nat} {F : FM} {p dx l p' dx' l' : Addr} {cs cs' : List Dt}
theorem rc_cart {i j : Nat} {σ : L2.St} {H0 H : Hp} (hij : i ≠ j) (G : BinC X.prog X.w X.K X.mg X.base g k "__eq__" F) (hr : Room k X.A) (st : StR X.K g Fr H0 H σ S) (hi : S[i]? = some (.own p (.cart dx l cs))) (hj : S[j]? = some (.own p' (.cart dx' l' cs')))
    (h : F [.own p (.cart dx l cs), .own p' (.cart dx' l' cs')] fun r => ∃ d, r = .im d ∧ R d S) : rSem X (compareOp .Eq) (.ref p) (.ref p') H (PostE X.K g Fr σ H0 R) := by
  obtain ⟨f, hf, hfn, Gf⟩ := G.ex
  intro pins s σ' u1 u2 I ra rb
  cases (show u1 = Value.ref p from ra)
  cases (show u2 = Value.ref p' from rb)
  obtain ⟨_, ha, _⟩ := st.own_at hi
  obtain ⟨_, hb, _⟩ := st.own_at hj
  obtain ⟨mA, J, _⟩ := ins_get I.hok ha
  obtain ⟨mB, J', _⟩ := ins_get I.hok hb
  obtain ⟨od, J, _⟩ := J.look
  obtain ⟨od', J', _⟩ := J'.look
  obtain ⟨m, hF⟩ := I.fr
  have ra' : ArgR X.K g H0 S [.ref p, .ref p'] [.own p (.cart dx l cs), .own p' (.cart dx' l' cs')] := .own (List.mem_iff_getElem?.mpr ⟨i, hi⟩) (.own (List.mem_iff_getElem?.mpr ⟨j, hj⟩) .nil)
  have nd : (([.own p (.cart dx l cs), .own p' (.cart dx' l' cs')] : List Slot).flatMap Slot.fp).Nodup := by
    rw [List.flatMap_cons, List.flatMap_cons, List.flatMap_nil, List.append_nil]
    exact List.nodup_append.mpr ⟨fp_nd st.nd hi, fp_nd st.nd hj, fun a ha b hb e => by subst e; exact two_slots hij hi hj st.nd ha hb⟩
  have hp := call_post (T := fun r S2 => ∃ d, r = .im d ∧ R d S2) G.mono st ra' nd h
  refine PySem.W.cmp_K (op := .Eq) (tb := .ref g.cart) hr.units0 hF I.ok.mod.kin J J'.type (by simp [PySem.W.notFirst]) hf hfn ?_
  refine wpAny_mono (wpAny_call (run_fnR (us := [.ref p, .ref p']) (vs := [.ref p, .ref p']) Gf hr pass0 I (.cons rfl (.cons rfl .nil)) hp)) (fun w s' z => ?_) fun _ _ x => x
  obtain ⟨z', H', I', rz, r, S3, H05, e5, st5, d, er, q5⟩ := z
  subst er
  exact SlX.cmpback rz ⟨z', H', I', rz, d, S3, H05, e5, st5.unsnoc, st5.last, q5⟩
/-- x == y, both own carts -/
theorem ew_eqC (i j : Nat) {x y : Str} {xp yp : Pos} (G : BinC X.prog X.w X.K X.mg X.base g k "__eq__" F) (hr : Room k X.A) (hi : S[i]? = some (.own p (.cart dx l cs))) (hj : S[j]? = some (.own p' (.cart dx' l' cs')))
    (h : F [.own p (.cart dx l cs), .own p' (.cart dx' l' cs')] fun r => ∃ d, r = .im d ∧ R d S) (hij : i ≠ j := by decide)
    (hN : X.N[i]? = some x := by rfl) (hv : Vis X.env.scope x := by first | exact Or.inl rfl | exact Or.inr (Or.inl rfl) | exact Or.inr (Or.inr rfl)) (hd : (x == ("__debug__" : Str)) = false := by decide) (hcd : (x == ("__classdict__" : Str)) = false := by decide)
    (hN2 : X.N[j]? = some y := by rfl) (hv2 : Vis X.env.scope y := by first | exact Or.inl rfl | exact Or.inr (Or.inl rfl) | exact Or.inr (Or.inr rfl)) (hd2 : (y == ("__debug__" : Str)) = false := by decide) (hcd2 : (y == ("__classdict__" : Str)) = false := by decide)
    (hm : behindInMarks .Eq (.Name y yp) = false := by first | exact nomark _ | rfl) : EW X g Fr (.Compare (.Name x xp) [.Eq] [.Name y yp] pos) S R :=
  ew_of (pe_cmpR op_sem (pe_var hN hv hd hcd) (pe_var hN2 hv2 hd2 hcd2) hm) fun σ H0 H st => ⟨.ref p, (st.own_at hi).1, .ref p', (st.own_at hj).1, rc_cart hij G hr st hi hj h⟩
/-- x == a new cart -/
theorem ew_eqCF (i : Nat) {x : Str} {xp : Pos} {b : Expr} (G : BinC X.prog X.w X.K X.mg X.base g k "__eq__" F) (hr : Room k X.A) (hi : S[i]? = some (.own p (.cart dx l cs)))
    (h : EF X g Fr b S fun r S1 => ∃ p' dx' l' cs' cs, r = .own p' (.cart dx' l' cs') ∧ S1[i]? = some (.own p (.cart dx l cs)) ∧ F [.own p (.cart dx l cs), .own p' (.cart dx' l' cs')] fun r => ∃ d, r = .im d ∧ R d S1)
    (hN : X.N[i]? = some x := by rfl) (hv : Vis X.env.scope x := by first | exact Or.inl rfl | exact Or.inr (Or.inl rfl) | exact Or.inr (Or.inr rfl)) (hd : (x == ("__debug__" : Str)) = false := by decide) (hcd : (x == ("__classdict__" : Str)) = false := by decide)
    (hm : behindInMarks .Eq b = false := by first | exact nomark _ | rfl) : EW X g Fr (.Compare (.Name x xp) [.Eq] [b] pos) S R :=
  ew_of (pe_cmpR op_sem (pe_var hN hv hd hcd) pe_sem hm) fun σ H0 H st => ⟨.ref p, (st.own_at hi).1, sem_mono (h σ H0 H st) fun v H1 ⟨r, S1, H01, e1, st1, p', dx', l', cs', cs2, er, hi1, q⟩ => by
    subst er
    have hl : σ.length = S1.length := by simpa using st1.len
    have hil : i < S1.length := (List.getElem?_eq_some_iff.mp hi1).1
    have hv : v = .ref p' := by
      have := (st1.own_at (i := S1.length) (p := p') (o := .cart dx' l' cs') (by simp)).1
      rw [List.getElem?_append_right (by omega)] at this
      simpa [hl] using this
    subst hv
    have c := rc_cart (R := fun d S' => S' = S1 ++ [.own p' (.cart dx' l' cs')] ∧ R d S1) (i := i) (j := S1.length) (by omega) G hr st1 (by rw [List.getElem?_append_left hil]; exact hi1) (by simp) (G.mono _ _ _ (fun r ⟨d, e, q⟩ => ⟨d, e, rfl, q⟩) q)
    exact rsem_mono c fun w H2 ⟨d, S2, H02, e2, st2, rw_, eS, q2⟩ => by
      subst eS
      exact ⟨d, S1, H02, e1.trans e2, st2.unsnoc, rw_, q2⟩⟩
/-- len of an own cart -/
theorem cw_lenC (G : BinC X.prog X.w X.K X.mg X.base g k "__len__" F) (hr : Room (k + 1) X.A) (h : F [.own p (.cart dx l cs)] fun r => ∃ n : Int, r = .im (.int n) ∧ 0 ≤ n ∧ n < 2 ^ 63 ∧ R (.int n) S) : CW X g Fr (.builtin "len") [.own p (.cart dx l cs)] S R := by
  obtain ⟨f, hf, hfn, Gf⟩ := G.ex
  intro σ H0 H vs st ra pins s σ' us I rs
  cases ra with
  | own mm t =>
    cases t
    obtain ⟨i, hi⟩ := List.mem_iff_getElem?.mp mm
    obtain ⟨_, ha, _⟩ := st.own_at hi
    obtain ⟨u, rfl, ru⟩ := rs.one
    cases (show u = Value.ref p from ru)
    obtain ⟨mA, J, _⟩ := ins_get I.hok ha
    obtain ⟨od, J, _⟩ := J.look
    obtain ⟨m, hF⟩ := I.fr
    have hp := call_post (T := fun r S2 => ∃ n : Int, r = .im (.int n) ∧ 0 ≤ n ∧ n < 2 ^ 63 ∧ R (.int n) S2) G.mono st (.own mm .nil) (by rw [List.flatMap_cons, List.flatMap_nil, List.append_nil]; exact fp_nd st.nd hi) h
    refine PySem.W.len_K hF I.ok.mod.kin J hf hfn ?_
    refine wpAny_mono (wpAny_call (SlX.run_at (us := [.ref p]) (ws := [.ref p]) Gf hr.in1 I.env0.in1 pass0 I (.cons rfl .nil) hp)) (fun w s' z => ?_) fun _ _ x => x
    obtain ⟨z', H', I', rz, r, S3, H05, e5, st5, n, er, n0, n1, q5⟩ := z
    subst er
    have rl := st5.last
    cases rl
    obtain ⟨t, e⟩ := (show ∃ t, w = Value.int n t from rz)
    subst e
    exact ⟨⟨n0, n1⟩, .int n, H', I'.tok _, ⟨_, rfl⟩, .int n, S3, H05, e5, st5.unsnoc, .int n, q5⟩
theorem cw_isCart (C : CarC X.K g) (h : R (.bl true) S) : CW X g Fr (.builtin "isinstance") [.own p (.cart dx l cs), .im (.cls g.cart)] S R := cw_of call_isi fun σ H0 H vs st ra => by
  cases ra with
  | own m t =>
    obtain ⟨w, rfl, q⟩ := arg1 t
    cases q
    obtain ⟨i, hi⟩ := List.mem_iff_getElem?.mp m
    obtain ⟨_, ha, _⟩ := st.own_at hi
    exact ⟨_, _, _, _, true, rfl, .own g.cart, .base (.ins ha C.isi.cl C.isi.ca C.isi.cn C.isi.ct C.isi.cm), by simp [PySem.W.kitOne], done st (.bl _) h⟩
/-! ### tuples with a price list in them -/
def eqR (K : PySem.W.Frag) (g : Cl) : Addr → Addr → Hp → Prop := fun a b H => ∃ ps, Rep K g H (.ref a) (.shop ps) ∧ Rep K g H (.ref b) (.shop ps)
structure EqSh (P : Program) (w : World) (K : PySem.W.Frag) (mg : Str → Option Value) (base : Heap) (g : Cl) (k : Nat) : Prop where
  ex : ∃ (f : Addr) (fd : FuncData), PySem.W.findIn K (.ref g.shop) "__eq__" = some (some (.ref f)) ∧ PySem.W.isFn K (.ref f) = true ∧ Binds K fd ["self", "other"] [] ∧ FnOk P w K mg base CX0 k f fd ["self", "other"] (spEq (eqR K g))
theorem eqsh_mk {P : Program} {w : World} {K : PySem.W.Frag} {mg : Str → Option Value} {base : Heap} {g : Cl} {k : Nat} {f : Addr} {fd : FuncData} {F : FM} (hF : ∀ ps (R : Slot → Prop), R (.im (.bl true)) → F [.im (.shop ps), .im (.shop ps)] R) (a : PySem.W.findIn K (.ref g.shop) "__eq__" = some (some (.ref f))) (i : PySem.W.isFn K (.ref f) = true) (hb : Binds K fd ["self", "other"] [])
    (ok : FnOk P w K mg base CX0 k f fd ["self", "other"] (spS K g F)) : EqSh P w K mg base g k := by
  refine ⟨f, fd, a, i, hb, ok.imp fun vs H Q E ⟨x, y, e, ⟨ps, r1, r2⟩, q⟩ => ?_⟩
  subst e
  refine ⟨fun _ => none, H, [.im (.shop ps), .im (.shop ps)], ⟨fun _ _ h => h, nofun, nofun, rfl, fun i s h => ?_, by simp [Slot.fp], fun a ha => by simp [Slot.fp] at ha⟩, hF ps _ fun v H0' H' ex st => ?_⟩
  · match i, h with
    | 0, h => cases h; exact ⟨.ref x, rfl, r1⟩
    | 1, h => cases h; exact ⟨.ref y, rfl, r2⟩
    | n + 2, h => simp at h
  · have hl := StR.last (σ := [some (V.ref x), some (V.ref y)]) (S := [.im (.shop ps), .im (.shop ps)]) st
    cases hl
    exact q H' (ex.trans st.ex)
/-- (shop, n) == (shop, n), the same ones -/
theorem ow_eqST {ps : List Pack} {n : Int} (G : EqSh X.prog X.w X.K X.mg X.base g k) (hr : Room (k + 1) X.A) (h : R (.bl true) S) : OpW X g Fr (compareOp .Eq) (.tup [.shop ps, .int n]) (.tup [.shop ps, .int n]) S R := by
  obtain ⟨f, fd, hf, hfn, hb, ok⟩ := G.ex
  have mR : Mon (DIns g.shop (eqR X.K g)) := mon_ins fun a b H H' e ⟨ps, r1, r2⟩ => ⟨ps, r1.mono e, r2.mono e⟩
  have q := rcG_tup (X := X) (mR.or mon_flat) ((eqG_ins ok hf hfn hb pass0).or (eqG_flat.mono (Nat.zero_le _)))
  refine ow_of (op_eqG q hr) fun σ H0 H v1 v2 st r1 r2 => ⟨?_, fun H' e => ⟨_, S, H0, Ex.refl _, st.grow e, .bl true, h⟩⟩
  cases r1 with
  | tup h1 l1 =>
    cases r2 with
    | tup h2 l2 =>
      cases l1 with
      | cons a1 t1 =>
        cases t1 with
        | cons b1 z1 =>
          cases z1
          cases l2 with
          | cons a2 t2 =>
            cases t2 with
            | cons b2 z2 =>
              cases z2
              cases b1
              cases b2
              obtain ⟨a, da, fa, rfl, ha⟩ := shop_at a1
              obtain ⟨b, db, fb, rfl, hb'⟩ := shop_at a2
              exact ⟨_, _, _, _, rfl, rfl, st_of (st.ex _ _ h1), st_of (st.ex _ _ h2), .cons (.inl ⟨a, b, da, db, fa, fb, rfl, rfl, st.ex _ _ ha, st.ex _ _ hb', ps, a1.mono st.ex, a2.mono st.ex⟩) (.cons (.inr ⟨rfl, rfl, by simp [eqV]⟩) .nil)⟩
/-! ### for x in (a, b), both own objects -/
theorem s_for2 (i1 i2 j : Nat) {x y z : Str} {xp yp zp tp : Pos} {kt : Nat} {body : List Stmt} {p1 p2 : Addr} {o1 o2 : OD} (hc : X.calm = true) (hNd : X.N.Nodup) (h1 : S[i1]? = some (.own p1 o1)) (h2 : S[i2]? = some (.own p2 o2)) (hj : j < S.length)
    (h : SW X g Fr body ((S.set i1 .no).set j (.own p1 o1))
      { nx := fun S3 => ∃ o, j < S3.length ∧ S3[i2]? = some (.own p2 o) ∧ SW X g Fr body ((S3.set i2 .no).set j (.own p2 o)) { nx := D.nx, rt := D.rt }, rt := D.rt })
    (hN1 : X.N[i1]? = some x := by rfl) (hv1 : Vis X.env.scope x := by first | exact Or.inl rfl | exact Or.inr (Or.inl rfl) | exact Or.inr (Or.inr rfl)) (hd1 : (x == ("__debug__" : Str)) = false := by decide) (hcd1 : (x == ("__classdict__" : Str)) = false := by decide)
    (hN2 : X.N[i2]? = some y := by rfl) (hv2 : Vis X.env.scope y := by first | exact Or.inl rfl | exact Or.inr (Or.inl rfl) | exact Or.inr (Or.inr rfl)) (hd2 : (y == ("__debug__" : Str)) = false := by decide) (hcd2 : (y == ("__classdict__" : Str)) = false := by decide)
    (hNj : X.N[j]? = some z := by rfl) (hx : Loc X.env.scope z := by first | exact Or.inl rfl | exact Or.inr rfl) (hf : X.fn z = true ∨ X.env.scope.names.lookup z = some .local := by first | exact .inl rfl | exact .inr rfl)
    (hs1 : starEach (.Name x xp :: [.Name y yp]) X.env = (false, eval (.Name x xp) X.env) :: starEach [.Name y yp] X.env := by rfl) (hs2 : starEach (.Name y yp :: []) X.env = (false, eval (.Name y yp) X.env) :: starEach [] X.env := by rfl)
    (hp : PassesOwn (model X.prog X.w) X.A X.env X.xe := by exact PassesOwn.never) (hs : ∀ v, foldedSetIterable (.Tuple [.Name x xp, .Name y yp] kt tp) X.env v = pure v := by intro _; rfl) : S1 X g Fr (.For (.Name z zp) (.Tuple [.Name x xp, .Name y yp] kt tp) body [] pos) S D :=
  fun σ H0 H st => semS_of (ps_for hp hc (pi_tup (pe_tup (pa_cons (pe_var hN1 hv1 hd1 hcd1) (pa_cons (pe_var hN2 hv2 hd2 hcd2) pa_nil hs2) hs1))) (pg_name hNd hNj hx hf) pss_sem hs) (by
    refine ⟨.ref p1, (st.own_at h1).1, .ref p2, (st.own_at h2).1, by show 2 ≤ sizeLine; rw [PySem.sizeLine_eq]; decide, fun t ht => ?_⟩
    have ht0 : H0 t = none := st.ex.free ht
    have s0 := st.new (o := .tup [.ref p1, .ref p2]) ht
    have et : ∀ H0' H', Ex (upd H0 t (.tup [.ref p1, .ref p2])) H0' → Ex H0' H' → H' t = some (.tup [.ref p1, .ref p2]) := fun H0' H' a b => b _ _ (a _ _ upd_same)
    refine ⟨t, rfl, ⟨_, st_of upd_same⟩, fun i m σ H => m = 2 - i ∧ ∃ S' H0', Ex (upd H0 t (.tup [.ref p1, .ref p2])) H0' ∧ StR X.K g Fr H0' H σ S' ∧
      ((i = 0 ∧ S' = S) ∨ (i = 1 ∧ ∃ o, j < S'.length ∧ S'[i2]? = some (.own p2 o) ∧ SW X g Fr body ((S'.set i2 .no).set j (.own p2 o)) { nx := D.nx, rt := D.rt }) ∨ (i = 2 ∧ D.nx S')), ⟨2, rfl, S, _, Ex.refl _, s0, .inl ⟨rfl, rfl⟩⟩, ?_⟩
    rintro i m σ2 H2 ⟨rfl, S2, H02, e2, st2, alt⟩
    have hT : SqT X.K H2 t [.ref p1, .ref p2] := st_of (et _ _ e2 st2.ex)
    have ebk := (Ex.new (o := .tup [.ref p1, .ref p2]) ht0).trans e2
    rcases alt with ⟨rfl, rfl⟩ | ⟨rfl, o, hj2, hi2, hb⟩ | ⟨rfl, q⟩
    · refine .inr ⟨⟨_, .ref p1, hT, rfl⟩, nxP X.K g Fr H02 (fun S3 => ∃ o, j < S3.length ∧ S3[i2]? = some (.own p2 o) ∧ SW X g Fr body ((S3.set i2 .no).set j (.own p2 o)) { nx := D.nx, rt := D.rt }), fun σ' H' ⟨S3, H03, e3, st3, q⟩ => ⟨1, by omega, by omega, S3, H03, e2.trans e3, st3, .inr (.inl ⟨rfl, q⟩)⟩, fun x H' y => ?_⟩
      obtain ⟨y1, y2⟩ := y
      subst y1
      have ex : V.ref p1 = x := by simpa using y2 _ hT
      subst ex
      exact semSs_mono (h _ _ _ (st2.move h1 hj)) ⟨fun _ _ z => z, fun _ _ ⟨r, S4, σ4, H4, e4, q4⟩ => ⟨r, S4, σ4, H4, ebk.trans e4, q4⟩, fun _ _ ⟨_, _, _, _, q⟩ => q.elim, fun _ _ ⟨_, _, _, _, q⟩ => q.elim⟩
    · refine .inr ⟨⟨_, .ref p2, hT, rfl⟩, nxP X.K g Fr H02 D.nx, fun σ' H' ⟨S3, H03, e3, st3, q⟩ => ⟨0, by omega, by omega, S3, H03, e2.trans e3, st3, .inr (.inr ⟨rfl, q⟩)⟩, fun x H' y => ?_⟩
      obtain ⟨y1, y2⟩ := y
      subst y1
      have ex : V.ref p2 = x := by simpa using y2 _ hT
      subst ex
      exact semSs_mono (hb _ _ _ (st2.move hi2 hj2)) ⟨fun _ _ z => z, fun _ _ ⟨r, S4, σ4, H4, e4, q4⟩ => ⟨r, S4, σ4, H4, ebk.trans e4, q4⟩, fun _ _ ⟨_, _, _, _, q⟩ => q.elim, fun _ _ ⟨_, _, _, _, q⟩ => q.elim⟩
    · exact .inl ⟨⟨_, hT, Nat.le_refl _⟩, S2, H02, ebk, st2, q⟩)
end
end DL

set_option Elab.async false
set_option linter.all false
set_option autoImplicit false
set_option maxRecDepth 100000
set_option maxHeartbeats 2000000
/-! The data layer, thirtieth part: (shop, n) == (shop, m). -/
namespace GQ
open PySem PySem.SeqAt
open AutoSeq1 (wpAny_loadPart')
open MeetsSeq MeetsSeq2 MeetsSeq3 SeqRoads2
section
variable {prog : Program} {w : World} {A : Around} {R : Result → Shared → Prop}
theorem tuple_eqB (l b : Addr) (items items2 : Array Value) (n n2 : Nat) (dd dd2 : Option Addr) (sl sl2 : Array (Option Value)) (hsz : items.size = items2.size) (I : Nat → Shared → Prop)
    (turn : ∀ i (h1 : i < items.size) (h2 : i < items2.size) s, I i s → wpAny (model prog w) A.in1 (eqBool items[i] items2[i]) (fun r s' => (r = true ∧ I (i + 1) s') ∨ (r = false ∧ R (.ok (.ret (.bool false))) s')) (fun e s' => R (.error e) s') s)
    (fin : ∀ s, I items.size s → R (.ok (.ret (.bool true))) s) {s : Shared} (hl1 : s.heap.get? l = some { cls := .type "tuple", dict := dd, data := .seq items n, slots := sl }) (hb1 : s.heap.get? b = some { cls := .type "tuple", dict := dd2, data := .seq items2 n2, slots := sl2 }) (h : I 0 s) :
    wpAny (model prog w) A.in1 (Builtin.«tuple.__eq__» ⟨[.ref l, .ref b], []⟩) (FinOf prog w A R) (fun e s' => R (.error e) s') s := by
  have f2 := AutoSeq1.sub_tuple_tuple
  have hZ : (items.toList.zip items2.toList).length = items.size := by simp [hsz]
  have h0 := h
  obtain ⟨hp, g, d, tk, os⟩ := s
  wp_walk using wpAny_loadPart' hl1, wpAny_loadPart' hb1, wpAny_forIn_list _ (fun rest b s' => b.1 = none ∧ ∃ i, rest = (items.toList.zip items2.toList).drop i ∧ i ≤ items.size ∧ I i s') _
  case turn =>
    rintro ⟨y, x⟩ rest b s' ⟨hb', i, hz, hi, hI⟩
    have hlt : i < (items.toList.zip items2.toList).length := by
      rcases Nat.lt_or_ge i (items.toList.zip items2.toList).length with h' | h'
      · exact h'
      · rw [List.drop_of_length_le h'] at hz; cases hz
    have h1 : i < items.size := hZ ▸ hlt
    have h2 : i < items2.size := hsz ▸ h1
    rw [List.drop_eq_getElem_cons hlt] at hz
    injection hz with hyx hrest
    have hy : y = items[i] := by have := congrArg Prod.fst hyx; simpa using this
    have hx : x = items2[i] := by have := congrArg Prod.snd hyx; simpa using this
    subst hy hx
    refine wpAny_bind (wpAny_mono (turn i h1 h2 s' hI) (fun r s2 q2 => ?_) fun _ _ x => x)
    rcases q2 with ⟨hr, q2⟩ | ⟨hr, q2⟩
    · subst hr
      wp_walk
      exact ⟨rfl, i + 1, hrest, h1, q2⟩
    · subst hr
      wp_walk
      exact q2
  case fin =>
    rintro ⟨b1, b2⟩ s' ⟨hb', i, hz, hi, hI⟩
    simp only at hb'
    subst hb'
    have hge : items.size ≤ i := by
      rcases Nat.lt_or_ge i (items.toList.zip items2.toList).length with h' | h'
      · rw [List.drop_eq_getElem_cons h'] at hz; cases hz
      · exact hZ ▸ h'
    have hi' : i = items.size := by omega
    have hR : R (.ok (.ret (.bool true))) s' := fin s' (hi' ▸ hI)
    wp_walk
    simpa [Builtin.Tuple.tupleCompareSizes, hsz] using hR
  case h =>
    exact ⟨rfl, 0, rfl, Nat.zero_le _, h0⟩
end
section
variable {prog : Program} {w : World} {A : Around} {E : Value → Shared → Prop} {s : Shared}
theorem rc_tupB {l b : Addr} {items items2 : Array Value} {Q : Value → Shared → Prop} (hsz : items.size = items2.size) (hu : A.units < cLine) (I : Nat → Shared → Prop)
    (hl : s.heap.IsTuple l items) (hb : s.heap.IsTuple b items2)
    (turn : ∀ i (h1 : i < items.size) (h2 : i < items2.size) s, I i s → wpAny (model prog w) A.in1 (eqBool items[i] items2[i]) (fun r s' => (r = true ∧ I (i + 1) s') ∨ (r = false ∧ Q (.bool false) s')) E s)
    (fin : ∀ s, I items.size s → Q (.bool true) s) (h : I 0 s) : wpAny (model prog w) A (richCompare .Eq (.ref l) (.ref b)) Q E s := by
  obtain ⟨⟨cls, dd, data, sl⟩, ho, hc, n, hd⟩ := id hl
  obtain ⟨⟨cls2, dd2, data2, sl2⟩, ho2, hc2, n2, hd2⟩ := id hb
  simp only at hc hd hc2 hd2
  subst hc hd hc2 hd2
  refine wpAny_richCompare_same_room (op := .Eq) ⟨_, ho, rfl⟩ ⟨_, ho2, rfl⟩ F.slot_tuple_eq (call_here F.slot_tuple_eq ⟨_, ho, rfl⟩ F.entry_tuple_eq (F.args_tuple_eq_2 _ _) ?_) hu
  refine tuple_eqB (R := wants (fun v s' => v ≠ .notImplemented ∧ Q v s') E) l b items items2 n n2 dd dd2 sl sl2 hsz I (fun i h1 h2 s0 hI => wpAny_mono (turn i h1 h2 s0 hI) (fun r s' z => ?_) fun _ _ x => x) (fun s' q => ⟨(fun x => nomatch x), fin s' q⟩) ho ho2 h
  exact z.imp id fun ⟨a, q⟩ => ⟨a, (fun x => nomatch x), q⟩
end
end GQ
namespace L2
open PySem PySem.Spec PyProof.Rows
/-- == says what D says, and only makes objects -/
abbrev EqvB := V → V → Hp → Bool → Prop
def EqB (X : Cx) (n : Nat) (D : EqvB) : Prop :=
  ∀ (A : Around) (pins : List (Addr × Obj)) (s : Shared) (σ : St) (H : Hp) (x y : V) (u v : Value) (b : Bool), Sub X n A → Inv X pins σ H s → RelV x u → RelV y v → D x y H b →
    wpAny (model X.prog X.w) A (eqBool u v) (fun r s' => r = b ∧ ∃ H', Inv X pins σ H' s' ∧ Ext H H') X.xe s
section
variable {X : Cx} {n : Nat}
def DFlatB : EqvB := fun x y _ b => flatV x = true ∧ flatV y = true ∧ eqV x y = b
theorem eqB_flat : EqB X 0 DFlatB := by
  intro A pins s σ H x y u v b sb I rx ry d
  obtain ⟨fx, fy, e⟩ := d
  have q := eqAt_V (A := A) (s := s) rx ry fx fy
  rw [e] at q
  exact q X.prog X.w X.xe _ ⟨rfl, H, I, Ext.rfl'⟩
def DInsB (C : Addr) (R : Addr → Addr → Hp → Bool → Prop) : EqvB := fun x y H r => ∃ a b dx dy fs gs, x = .ref a ∧ y = .ref b ∧ H a = some (.ins C dx fs) ∧ H b = some (.ins C dy gs) ∧ R a b H r
def spEqB (R : Addr → Addr → Hp → Bool → Prop) : Sp := fun vs H Q _ => ∃ a b r, vs = [.ref a, .ref b] ∧ R a b H r ∧ ∀ H', Ext H H' → Q (.bl r) H'
theorem eqB_ins {CX : CXT} {C f : Addr} {fd : FuncData} {ps : List Str} {R : Addr → Addr → Hp → Bool → Prop} {E : XK} (F : FnOk X.prog X.w X.K X.mg X.base CX n f fd ps (spEqB R))
    (hs : PySem.W.findIn X.K (.ref C) "__eq__" = some (some (.ref f))) (hf : PySem.W.isFn X.K (.ref f) = true) (hb : Binds X.K fd ps []) (hx : Passes CX X E) (hR : ∀ a H r, R a a H r → r = true) : EqB X n (DInsB C R) := by
  intro A pins s σ H x y u v rb sb I rx ry d
  obtain ⟨a, b, dx, dy, fs, gs, rfl, rfl, ha, hb', hr⟩ := d
  cases rx
  cases ry
  by_cases hab : a = b
  · subst hab
    have := hR a H rb hr
    subst this
    exact SeqAt.EqAt.same (A := A) (s := s) (.ref a) X.prog X.w X.xe _ ⟨rfl, H, I, Ext.rfl'⟩
  obtain ⟨mA, J, _⟩ := ins_get I.hok ha
  obtain ⟨mB, J', _⟩ := ins_get I.hok hb'
  obtain ⟨od, J, _⟩ := J.look
  obtain ⟨od', J', _⟩ := J'.look
  obtain ⟨m, hF⟩ := I.fr
  have key : wpAny (model X.prog X.w) A (richCompare .Eq (.ref a) (.ref b)) (fun r s' => r = .bool rb ∧ ∃ H', Inv X pins σ H' s' ∧ Ext H H') X.xe s := by
    refine PySem.W.cmp_K (op := .Eq) (tb := .ref C) sb.room.units0 hF I.ok.mod.kin J J'.type (by simp [PySem.W.notFirst]) hs hf ?_
    have hsp : spEqB R [.ref a, .ref b] H (fun v H' => v = .bl rb ∧ Ext H H') E := ⟨a, b, rb, rfl, hr, fun H' e => ⟨rfl, e⟩⟩
    have e0 : Env0 X.prog X.w X.K X.mg X.base A X.stack s H := by
      have e := I.env0
      exact ⟨by rw [sb.fr]; exact e.frames, e.mod, e.bs, e.bsz, e.funs, e.frf, e.hok, e.bare⟩
    have hl := F.len _ _ _ _ hsp
    have r2 : Vals [V.ref a, V.ref b] [Value.ref a, Value.ref b] := .cons rfl (.cons rfl .nil)
    refine wpAny_call (codeAny_mono (F.run A X.stack s H ⟨[.ref a, .ref b], []⟩ [.ref a, .ref b] [.ref a, .ref b] _ E sb.room e0 (by
      have := hb s [.ref a, .ref b] I.kIn (by simpa using hl)
      simpa using this) r2 hsp) fun r s' hq => ?_)
    cases r with
    | error e => exact hx pins σ H s e s' I hq
    | ok fl =>
      cases fl with
      | ret w =>
        obtain ⟨z, H', I', rz, ez, ex⟩ := I.after hq
        subst ez
        cases rz
        exact ⟨rfl, H', I', ex⟩
      | next => exact False.elim hq
      | brk => exact False.elim hq
      | cont => exact False.elim hq
  refine GQ.eqBool_refG hab (wpAny_mono key (fun r s' q => ?_) fun _ _ x => x)
  obtain ⟨hr', q⟩ := q
  exact ⟨rb, hr', rfl, q⟩
/-- pairs: the second looked at only if the first are equal -/
def rPairB (K : PySem.W.Frag) (D D' : EqvB) : R2 := fun x y H Q => ∃ a b x1 x2 y1 y2 r r', x = .ref a ∧ y = .ref b ∧ SqT K H a [x1, x2] ∧ SqT K H b [y1, y2] ∧ D x1 y1 H r ∧ (∀ H', Ext H H' → D' x2 y2 H' r') ∧ ∀ H', Ext H H' → Q (.bl (r && r')) H'
theorem op_pairB {D D' : EqvB} (h : EqB X n D) (h' : EqB X n D') (hr : Room (n + 1) X.A) : OpR X (compareOp .Eq) (rPairB X.K D D') := by
  intro pins s σ H x y v u Q I rx ry hq
  obtain ⟨a, b, x1, x2, y1, y2, r, r', rfl, rfl, ha, hb, d, d', q⟩ := hq
  cases rx
  cases ry
  obtain ⟨its, ra, ea, za⟩ := I.tuple ha
  obtain ⟨its2, rb, eb, zb⟩ := I.tuple hb
  cases ra with
  | cons a1 ta =>
    cases ta with
    | cons a2 na =>
      cases na
      cases rb with
      | cons b1 tb =>
        cases tb with
        | cons b2 nb =>
          cases nb
          show wpAny (model X.prog X.w) X.A (richCompare .Eq (.ref a) (.ref b)) (EP X pins σ Q) X.xe s
          have sb : Sub X n X.A.in1 := ⟨hr.in1, rfl⟩
          refine GQ.rc_tupB (by rfl) hr.units0 (fun i s' => (∃ H', Inv X pins σ H' s' ∧ Ext H H' ∧ (i = 0 → H' = H)) ∧ (1 ≤ i → r = true) ∧ (2 ≤ i → r' = true)) ea eb (fun i h1 h2 s' hI => ?_) (fun s' hI => ?_) ⟨⟨H, I, Ext.rfl', fun _ => rfl⟩, nofun, nofun⟩
          · obtain ⟨⟨H1, I1, e1, e10⟩, k1, k2⟩ := hI
            match i, h1 with
            | 0, _ =>
              refine wpAny_mono (h X.A.in1 pins s' σ H1 x1 y1 _ _ r sb I1 a1 b1 ?_) (fun w s2 z => ?_) fun _ _ x => x
              · rw [e10 rfl]; exact d
              · obtain ⟨hw, H2, I2, e2⟩ := z
                subst hw
                cases w with
                | true => exact .inl ⟨rfl, ⟨H2, I2, e1.trans e2, nofun⟩, fun _ => rfl, fun h => absurd h (by decide)⟩
                | false => exact .inr ⟨rfl, .bl false, H2, I2, rfl, q H2 (e1.trans e2)⟩
            | 1, _ =>
              have hr1 := k1 (Nat.le_refl _)
              subst hr1
              refine wpAny_mono (h' X.A.in1 pins s' σ H1 x2 y2 _ _ r' sb I1 a2 b2 (d' H1 e1)) (fun w s2 z => ?_) fun _ _ x => x
              obtain ⟨hw, H2, I2, e2⟩ := z
              subst hw
              cases w with
              | true => exact .inl ⟨rfl, ⟨H2, I2, e1.trans e2, nofun⟩, fun _ => rfl, fun _ => rfl⟩
              | false => exact .inr ⟨rfl, .bl false, H2, I2, rfl, q H2 (e1.trans e2)⟩
            | k + 2, h => exact absurd h (by simp)
          · obtain ⟨⟨H1, I1, e1, e10⟩, k1, k2⟩ := hI
            have c1 := k1 (by show 1 ≤ 2; decide)
            have c2 := k2 (by show 2 ≤ 2; decide)
            subst c1 c2
            exact ⟨.bl true, H1, I1, rfl, q H1 e1⟩
end
end L2
namespace DL
open PySem PySem.Spec PyProof.Rows L2 PK
def eqRB (K : PySem.W.Frag) (g : Cl) : Addr → Addr → Hp → Bool → Prop := fun a b H r => ∃ ps qs, Rep K g H (.ref a) (.shop ps) ∧ Rep K g H (.ref b) (.shop qs) ∧ r = decide (ps = qs)
theorem repL_packs {K : PySem.W.Frag} {g : Cl} {H : Hp} : ∀ {vs : List V} {ps qs : List Pack}, RepL K g H vs (ps.map pk) → RepL K g H vs (qs.map pk) → ps = qs
  | _, [], [], _, _ => rfl
  | _, [], _ :: _, h, h' => by cases h; cases h'
  | _, _ :: _, [], h, h' => by cases h'; cases h
  | _, p :: r, q :: t, h, h' => by
    cases h with
    | cons a b =>
      cases h' with
      | cons a' b' =>
        cases a with
        | tup e l =>
          cases a' with
          | tup e' l' =>
            rw [e] at e'
            cases e'
            have l1 := l.ints (ns := [p.1, p.2])
            have l2 := l'.ints (ns := [q.1, q.2])
            rw [l1] at l2
            simp only [List.map_cons, List.map_nil, List.cons.injEq, V.int.injEq, and_true] at l2
            rw [repL_packs b b', Prod.ext l2.1 l2.2]
theorem shop_one {K : PySem.W.Frag} {g : Cl} {H : Hp} {v : V} {ps qs : List Pack} (h : Rep K g H v (.shop ps)) (h' : Rep K g H v (.shop qs)) : ps = qs := by
  cases h with
  | shop ok h1 h2 l h3 h4 =>
    cases h' with
    | shop ok' h1' h2' l' h3' h4' =>
      rw [h1] at h1'
      simp only [Option.some.injEq, HO.ins.injEq, shopF, List.cons.injEq, Prod.mk.injEq, V.ref.injEq, true_and, and_true] at h1'
      obtain ⟨rfl, rfl, _⟩ := h1'
      rw [h2] at h2'
      cases h2'
      exact repL_packs l l'
structure EqSB (P : Program) (w : World) (K : PySem.W.Frag) (mg : Str → Option Value) (base : Heap) (g : Cl) (k : Nat) : Prop where
  ex : ∃ (f : Addr) (fd : FuncData), PySem.W.findIn K (.ref g.shop) "__eq__" = some (some (.ref f)) ∧ PySem.W.isFn K (.ref f) = true ∧ Binds K fd ["self", "other"] [] ∧ FnOk P w K mg base CX0 k f fd ["self", "other"] (spEqB (eqRB K g))
theorem eqsb_mk {P : Program} {w : World} {K : PySem.W.Frag} {mg : Str → Option Value} {base : Heap} {g : Cl} {k : Nat} {f : Addr} {fd : FuncData} {F : FM} (hF : ∀ ps qs (R : Slot → Prop), R (.im (.bl (decide (ps = qs)))) → F [.im (.shop ps), .im (.shop qs)] R) (a : PySem.W.findIn K (.ref g.shop) "__eq__" = some (some (.ref f))) (i : PySem.W.isFn K (.ref f) = true) (hb : Binds K fd ["self", "other"] [])
    (ok : FnOk P w K mg base CX0 k f fd ["self", "other"] (spS K g F)) : EqSB P w K mg base g k := by
  refine ⟨f, fd, a, i, hb, ok.imp fun vs H Q E ⟨x, y, r, e, ⟨ps, qs, r1, r2, er⟩, q⟩ => ?_⟩
  subst e er
  refine ⟨fun _ => none, H, [.im (.shop ps), .im (.shop qs)], ⟨fun _ _ h => h, nofun, nofun, rfl, fun i s h => ?_, by simp [Slot.fp], fun a ha => by simp [Slot.fp] at ha⟩, hF ps qs _ fun v H0' H' ex st => ?_⟩
  · match i, h with
    | 0, h => cases h; exact ⟨.ref x, rfl, r1⟩
    | 1, h => cases h; exact ⟨.ref y, rfl, r2⟩
    | n + 2, h => simp at h
  · have hl := StR.last (σ := [some (V.ref x), some (V.ref y)]) (S := [.im (.shop ps), .im (.shop qs)]) st
    cases hl
    exact q H' (ex.trans st.ex)
section
variable {X : Cx} {g : Cl} {Fr : Hp} {S : List Slot} {R : Dt → List Slot → Prop} {k : Nat}
/-- (shop, n) == (shop, m) -/
theorem ow_eqSB {ps qs : List Pack} {n m : Int} (G : EqSB X.prog X.w X.K X.mg X.base g k) (hr : Room (k + 1) X.A) (h : R (.bl (decide (ps = qs) && decide (n = m))) S) : OpW X g Fr (compareOp .Eq) (.tup [.shop ps, .int n]) (.tup [.shop qs, .int m]) S R := by
  obtain ⟨f, fd, hf, hfn, hb, ok⟩ := G.ex
  have q1 := eqB_ins ok hf hfn hb pass0 fun a H r ⟨ps, qs, r1, r2, e⟩ => by rw [e, shop_one r1 r2]; simp
  have q2 : EqB X k DFlatB := fun A pins s σ H x y u v b sb => eqB_flat A pins s σ H x y u v b (sb.mono (Nat.zero_le _))
  refine ow_of (op_pairB q1 q2 hr) fun σ H0 H v1 v2 st r1 r2 => ?_
  cases r1 with
  | tup h1 l1 =>
    cases r2 with
    | tup h2 l2 =>
      cases l1 with
      | cons a1 t1 =>
        cases t1 with
        | cons b1 z1 =>
          cases z1
          cases l2 with
          | cons a2 t2 =>
            cases t2 with
            | cons b2 z2 =>
              cases z2
              cases b1
              cases b2
              obtain ⟨a, da, fa, rfl, ha⟩ := shop_at a1
              obtain ⟨b, db, fb, rfl, hb'⟩ := shop_at a2
              exact ⟨_, _, _, _, _, _, _, decide (n = m), rfl, rfl, st_of (st.ex _ _ h1), st_of (st.ex _ _ h2), ⟨a, b, da, db, fa, fb, rfl, rfl, st.ex _ _ ha, st.ex _ _ hb', ps, qs, a1.mono st.ex, a2.mono st.ex, rfl⟩, fun H' e => ⟨rfl, rfl, by simp only [eqV]; rw [Bool.eq_iff_iff]; simp⟩, fun H' e => ⟨_, S, H0, Ex.refl _, st.grow e, .bl _, h⟩⟩
end
end DL

set_option Elab.async false
set_option linter.all false
set_option autoImplicit false
set_option maxRecDepth 100000
set_option maxHeartbeats 2000000
/-! The data layer, thirty-first part: comprehensions that draw; methods of new carts. -/
namespace DL
open PySem PySem.Spec PyProof.Rows L2 PK
section
variable {X : Cx} {g : Cl} {Fr : Hp} {S : List Slot} {R : Dt → List Slot → Prop} {D : DE} {pos : Pos} {k : Nat} {F : CF}
/-- [e for x in xs], of each value no more known than Y -/
theorem lc_rel {Z : List Dt → Prop} (Y : Dt → Prop) (xs : List Dt) {scope : Scope} {vs : List Nat} {tg elt : Expr} (hl : xs.length < 100000)
    (h : ∀ (Fr : Hp) (i : Nat) (x : Dt), xs[i]? = some x → ∀ (s : Shared) (H' : Hp) (C : Addr) (cl : List (Str × Addr)) (fp : List Addr), GV (X.blk s H' scope (compEnvC scope cl C X.env) fp) g Fr vs tg x (wipeS S vs) fun S2 => ∀ (s : Shared) (H' : Hp) (C : Addr) (cl : List (Str × Addr)) (fp : List Addr),
      EW (X.blk s H' scope (compEnvC scope cl C X.env) fp) g Fr elt S2 fun y S4 => wipeS S4 vs = wipeS S vs ∧ Y y) (hR : ∀ acc : List Dt, acc.length = xs.length → (∀ y ∈ acc, Y y) → Z acc) :
    ∃ Pv : Nat → List Dt → Prop, Pv 0 [] ∧ LcOb X g scope vs tg elt [] xs S Pv ∧ ∀ acc, Pv xs.length acc → Z acc := by
  refine ⟨fun i acc => acc.length = i ∧ ∀ y ∈ acc, Y y, ⟨rfl, by simp⟩, fun Fr i x acc hx hp s H' C cl fp => ?_, fun acc e => hR acc e.1 e.2⟩
  have hi : i < xs.length := (List.getElem?_eq_some_iff.mp hx).1
  obtain ⟨p1, p2⟩ := hp
  refine fun σ H0 H v st r => gsem_mono (h Fr i x hx s H' C cl fp σ H0 H v st r) fun σ' H' z => ⟨z.1, ?_⟩
  obtain ⟨S2, H02, e2, st2, q⟩ := z.2
  refine ⟨S2, H02, e2, st2, fun _ s H' C cl fp σ H0 H st => sem_mono (q s H' C cl fp σ H0 H st) fun v H' w => ?_, nofun⟩
  obtain ⟨d, S4, H04, e4, st4, r4, w1, w2⟩ := w
  refine ⟨d, S4, H04, e4, st4, r4, w1, by omega, by simp [p1], fun y hy => ?_⟩
  rcases List.mem_append.mp hy with m | m
  · exact p2 y m
  · rw [List.mem_singleton.mp m]; exact w2
variable {T : Bool → List Slot → Prop} {p dx l p' dx' l' : Addr} {cs cs' : List Dt} {F2 : FM}
/-- x == y as a test, both own carts -/
theorem tw_eqC (i j : Nat) {x y : Str} {xp yp : Pos} (G : BinC X.prog X.w X.K X.mg X.base g k "__eq__" F2) (hr : Room k X.A) (hi : S[i]? = some (.own p (.cart dx l cs))) (hj : S[j]? = some (.own p' (.cart dx' l' cs')))
    (h : F2 [.own p (.cart dx l cs), .own p' (.cart dx' l' cs')] fun r => ∃ d, r = .im d ∧ ∃ b, d = .bl b ∧ T b S) (hij : i ≠ j := by decide)
    (hN : X.N[i]? = some x := by rfl) (hv : Vis X.env.scope x := by first | exact Or.inl rfl | exact Or.inr (Or.inl rfl) | exact Or.inr (Or.inr rfl)) (hd : (x == ("__debug__" : Str)) = false := by decide) (hcd : (x == ("__classdict__" : Str)) = false := by decide)
    (hN2 : X.N[j]? = some y := by rfl) (hv2 : Vis X.env.scope y := by first | exact Or.inl rfl | exact Or.inr (Or.inl rfl) | exact Or.inr (Or.inr rfl)) (hd2 : (y == ("__debug__" : Str)) = false := by decide) (hcd2 : (y == ("__classdict__" : Str)) = false := by decide)
    (hm : behindInMarks .Eq (.Name y yp) = false := by first | exact nomark _ | rfl) : TW X g Fr (.Compare (.Name x xp) [.Eq] [.Name y yp] pos) S T :=
  tw_of (pt_cmpR op_sem (pe_var hN hv hd hcd) (pe_var hN2 hv2 hd2 hcd2) hm) fun σ H0 H st => ⟨.ref p, (st.own_at hi).1, .ref p', (st.own_at hj).1, rsem_mono (rc_cart (R := fun d S1 => ∃ b, d = .bl b ∧ T b S1) hij G hr st hi hj h) fun v H' ⟨d, S3, H03, e3, st3, r3, b, eb, q⟩ => by
    subst eb
    cases r3
    exact ⟨b, rfl, S3, H03, e3, st3, q⟩⟩
/-- x == a new cart, as a test -/
theorem tw_eqCF (i : Nat) {x : Str} {xp : Pos} {b : Expr} (G : BinC X.prog X.w X.K X.mg X.base g k "__eq__" F2) (hr : Room k X.A) (hi : S[i]? = some (.own p (.cart dx l cs)))
    (h : EF X g Fr b S fun r S1 => ∃ p' dx' l' cs' cs, r = .own p' (.cart dx' l' cs') ∧ S1[i]? = some (.own p (.cart dx l cs)) ∧ F2 [.own p (.cart dx l cs), .own p' (.cart dx' l' cs')] fun r => ∃ d, r = .im d ∧ ∃ b, d = .bl b ∧ T b S1)
    (hN : X.N[i]? = some x := by rfl) (hv : Vis X.env.scope x := by first | exact Or.inl rfl | exact Or.inr (Or.inl rfl) | exact Or.inr (Or.inr rfl)) (hd : (x == ("__debug__" : Str)) = false := by decide) (hcd : (x == ("__classdict__" : Str)) = false := by decide)
    (hm : behindInMarks .Eq b = false := by first | exact nomark _ | rfl) : TW X g Fr (.Compare (.Name x xp) [.Eq] [b] pos) S T :=
  tw_of (pt_cmpR op_sem (pe_var hN hv hd hcd) pe_sem hm) fun σ H0 H st => ⟨.ref p, (st.own_at hi).1, sem_mono (h σ H0 H st) fun v H1 ⟨r, S1, H01, e1, st1, p', dx', l', cs', cs2, er, hi1, q⟩ => by
    subst er
    have hl : σ.length = S1.length := by simpa using st1.len
    have hil : i < S1.length := (List.getElem?_eq_some_iff.mp hi1).1
    have hv : v = .ref p' := by
      have := (st1.own_at (i := S1.length) (p := p') (o := .cart dx' l' cs') (by simp)).1
      rw [List.getElem?_append_right (by omega)] at this
      simpa [hl] using this
    subst hv
    have c := rc_cart (R := fun d S' => S' = S1 ++ [.own p' (.cart dx' l' cs')] ∧ ∃ b, d = .bl b ∧ T b S1) (i := i) (j := S1.length) (by omega) G hr st1 (by rw [List.getElem?_append_left hil]; exact hi1) (by simp) (G.mono _ _ _ (fun r ⟨d, e, q⟩ => ⟨d, e, rfl, q⟩) q)
    exact rsem_mono c fun w H2 ⟨d, S2, H02, e2, st2, rw_, eS, b, eb, q2⟩ => by
      subst eS eb
      cases rw_
      exact ⟨b, rfl, S1, H02, e1.trans e2, st2.unsnoc, q2⟩⟩
/-- e.m(a, ..), e a new cart, gone thereafter -/
theorem ew_methCF {o e : Expr} {es : List Expr} {m : Str} {apos : Pos} {pl : Sem Bool} (C : CarC X.K g) (G : MtC X.prog X.w X.K X.mg X.base g k m F) (hr : Room k X.A)
    (h : EF X g Fr o S fun r S1 => ∃ p dx l cs, r = .own p (.cart dx l cs) ∧ ∀ Fr', AW X g Fr' (e :: es) S1 fun ss S2 => ∃ ds, imAll ss = some ds ∧ F cs ds fun d _ => R d S2) (hl : (m == ("states" : Str)) = false := by decide)
    (hst : starEach (e :: es) X.env = (false, eval e X.env) :: starEach es X.env := by rfl) (hpl : (backTo pos (starEach es X.env)).any (·.1) = false := by rfl)
    (ht : eval (.Call (.Attribute o m apos) (e :: es) [] pos) X.env = (do
      let ov ← eval o X.env
      standAt apos.atName
      let (f, first) ← holding [ov] (getMethod ov m pl)
      callWith pos f first (backTo pos (starEach (e :: es) X.env)) (backToKw pos (keywordEach [] X.env))) := by rfl) : EW X g Fr (.Call (.Attribute o m apos) (e :: es) [] pos) S R := by
  obtain ⟨f, hm, Gf⟩ := G.ex
  refine fun σ H0 H st => sem_of (t := fun σ H Q => tSem X o σ H fun x H1 => ∃ a dx fs, x = .ref a ∧ H1 a = some (.ins g.cart dx fs) ∧ fs.lookup m = none ∧ tSemA X (e :: es) σ H1 fun vs H2 => spC X.K g F (x :: vs) H2 Q E0) ⟨fun pins s σ H Q I hq => ?_⟩ ?_
  · refine PySem.W.methodCall_KW (pl := pl) (thn (hq pins s I) fun u s1 z => ?_) ht
    obtain ⟨x, H1, I1, rx, a, dx, fs, ex, ea, l, q⟩ := z
    subst ex
    cases (show u = Value.ref a from rx)
    refine getmeth_ok I1 ea C.isi.cl hm l ?_
    refine PySem.W.callWith_K (first := [.ref a]) (h₀ := X.base) I.ok.mod.kin hm.kp (thn (q pos pins s1 I1) fun us s2 z => ?_) hst hpl
    obtain ⟨vs, H2, I2, r, q2⟩ := z
    exact ⟨I2.kIn, wpAny_call (run_fnR (us := .ref a :: us) (vs := .ref a :: vs) Gf hr pass0 I2 (.cons rfl r) q2)⟩
  · refine sem_mono (h σ H0 H st) fun v H1 ⟨r, S1, H01, e1, st1, p, dx, l, cs, er, q⟩ => ?_
    subst er
    have hll : σ.length = S1.length := by simpa using st1.len
    have hS1 : (S1 ++ [Slot.own p (.cart dx l cs)])[S1.length]? = some (.own p (.cart dx l cs)) := by simp
    have hv : v = .ref p := by
      have := (st1.own_at hS1).1
      rw [List.getElem?_append_right (by omega)] at this
      simpa [hll] using this
    subst hv
    refine ⟨p, dx, _, rfl, (st1.own_at hS1).2.1, ?_, semA_mono (q (frS Fr H1 (.own p (.cart dx l cs))) σ H01 H1 st1.aside) fun vs H2 ⟨ss, S2, H02, e2, st2, ra, ds, hds, q2⟩ => ?_⟩
    · show List.lookup m [(("states" : Str), V.ref l)] = none
      simp only [List.lookup, hl]
    · have l2 : σ.length = S2.length := st2.len
      have st3 := st1.back (τ := []) (rs := []) e2 l2 (by simpa using st2)
      have hS2 : (S2 ++ [Slot.own p (.cart dx l cs)])[S2.length]? = some (.own p (.cart dx l cs)) := by simp
      obtain ⟨Fr', H0', p', dx', l', cs', ds', a, b⟩ := call_postC (R := fun d S' => (∃ o, S' = S2 ++ [Slot.own p o]) ∧ R d S2) G.mono st3 hS2 (ra.imAll hds) (G.mono _ _ _ _ (fun d c w => ⟨⟨.cart dx l c, by simp⟩, w⟩) q2)
      refine ⟨Fr', H0', p', dx', l', cs', ds', a, G.mono _ _ _ _ (fun d c w v H0'' H'' x1 x2 => ?_) b⟩
      obtain ⟨d', S', H03, e3, st4, r4, ⟨o', eS⟩, q4⟩ := w v H0'' H'' x1 x2
      subst eS
      exact ⟨d', S2, H03, (e1.trans e2).trans e3, st4.unsnoc, r4, q4⟩
end
end DL

set_option Elab.async false
set_option linter.all false
set_option maxRecDepth 100000
set_option maxHeartbeats 16000000
namespace Lw
open PySem PySem.Spec PyProof.Rows L2 PK DL
/-- a name -/
local macro_rules | `(tactic| walk_at "nm") => `(tactic| first | refine ew_name 0 rfl ?_ | refine ew_name 1 rfl ?_ | refine ew_name 2 rfl ?_ | refine ew_name 3 rfl ?_ | refine ew_name 4 rfl ?_ | refine ew_name 5 rfl ?_ | refine ew_name 6 rfl ?_ | refine ew_name 7 rfl ?_ | refine ew_name 8 rfl ?_ | refine ew_name 9 rfl ?_ | refine ew_name 10 rfl ?_ | refine ew_name 11 rfl ?_ | refine ew_name 12 rfl ?_ | refine ew_name 13 rfl ?_ | refine ew_name 14 rfl ?_ | refine ew_name 15 rfl ?_ | refine ew_name 16 rfl ?_ | refine ew_name 17 rfl ?_ | refine ew_name 18 rfl ?_ | refine ew_name 19 rfl ?_ | refine ew_name 20 rfl ?_ | refine ew_name 21 rfl ?_)
/-- one step of an expression -/
local macro_rules | `(tactic| walk_at "e1") => `(tactic| first
  | refine ew_int ?_ | refine ew_bin ?_ | walk_at "nm" | refine ew_bl ?_ | refine ew_non ?_ | refine ew_str ?_ | refine ew_ix ?_ | refine ew_cmp ?_ | refine aw_nil ?_ | refine aw_im ?_ | refine ew_tup ?_ | refine ew_minus ?_
  | refine ow_addI ?_ | refine ow_subI ?_ | refine ow_ltI ?_ | refine ow_leI ?_ | refine ow_gtI ?_ | refine ow_geI ?_ | refine ow_eqI ?_ | refine ow_neI ?_)
local macro_rules | `(tactic| walk_at "e") => `(tactic| repeat (walk_at "e1"))
local macro_rules | `(tactic| walk_at "fg") => `(tactic| (repeat (first | exact trivial | refine ⟨.inl rfl, ?_⟩ | refine ⟨.inr rfl, ?_⟩)))
def top (i : Nat) : Stmt := PySem.Challenge.pw_packprices_k18_whole_carts_as_sums.main.body.getD i (.Pass ⟨0, 0, 0, 0⟩)
abbrev s_is_between : Stmt := top 11
abbrev N_is_between : List Str := ["value", "low", "high"]
theorem sc_is_between : FnScope N_is_between ["value", "low", "high"] (defScope s_is_between) := ⟨rfl, rfl, rfl, by decide +kernel, rfl, by decide +kernel, by decide +kernel⟩
abbrev s_is_pack : Stmt := top 12
abbrev N_is_pack : List Str := ["value"]
theorem sc_is_pack : FnScope N_is_pack ["value"] (defScope s_is_pack) := ⟨rfl, rfl, rfl, by decide +kernel, rfl, by decide +kernel, by decide +kernel⟩
abbrev s_prices_by : Stmt := top 13
abbrev N_prices_by : List Str := ["packs", "most", "found", "number", "size", "price"]
theorem sc_prices_by : FnScope N_prices_by ["packs", "most"] (defScope s_prices_by) := ⟨rfl, rfl, rfl, by decide +kernel, rfl, by decide +kernel, by decide +kernel⟩
abbrev s_needed_of : Stmt := top 14
abbrev N_needed_of : List Str := ["packs", "found", "pack", "rest", "other"]
theorem sc_needed_of : FnScope N_needed_of ["packs"] (defScope s_needed_of) := ⟨rfl, rfl, rfl, by decide +kernel, rfl, by decide +kernel, by decide +kernel⟩
abbrev s_best_pack : Stmt := top 15
abbrev N_best_pack : List Str := ["packs", "found", "size", "price"]
theorem sc_best_pack : FnScope N_best_pack ["packs"] (defScope s_best_pack) := ⟨rfl, rfl, rfl, by decide +kernel, rfl, by decide +kernel, by decide +kernel⟩
abbrev s_need_number : Stmt := top 17
abbrev N_need_number : List Str := ["number", "low", "high"]
theorem sc_need_number : FnScope N_need_number ["number", "low", "high"] (defScope s_need_number) := ⟨rfl, rfl, rfl, by decide +kernel, rfl, by decide +kernel, by decide +kernel⟩
abbrev s_need_shop : Stmt := top 18
abbrev N_need_shop : List Str := ["shop"]
theorem sc_need_shop : FnScope N_need_shop ["shop"] (defScope s_need_shop) := ⟨rfl, rfl, rfl, by decide +kernel, rfl, by decide +kernel, by decide +kernel⟩
abbrev s_largest_for : Stmt := top 20
abbrev N_largest_for : List Str := ["shop", "total", "size", "price", "low", "high", "middle"]
theorem sc_largest_for : FnScope N_largest_for ["shop", "total"] (defScope s_largest_for) := ⟨rfl, rfl, rfl, by decide +kernel, rfl, by decide +kernel, by decide +kernel⟩
abbrev s_most_pieces : Stmt := top 21
abbrev N_most_pieces : List Str := ["shop", "number"]
theorem sc_most_pieces : FnScope N_most_pieces ["shop", "number"] (defScope s_most_pieces) := ⟨rfl, rfl, rfl, by decide +kernel, rfl, by decide +kernel, by decide +kernel⟩
abbrev s_law_source : Stmt := top 26
abbrev N_law_source : List Str := ["script", "index", "cell"]
theorem sc_law_source : FnScope N_law_source ["script", "index"] (defScope s_law_source) := ⟨rfl, rfl, rfl, by decide +kernel, rfl, by decide +kernel, by decide +kernel⟩
abbrev s_law_draw : Stmt := top 27
abbrev N_law_draw : List Str := ["source", "size", "drawn"]
theorem sc_law_draw : FnScope N_law_draw ["source", "size"] (defScope s_law_draw) := ⟨rfl, rfl, rfl, by decide +kernel, rfl, by decide +kernel, by decide +kernel⟩
abbrev s_law_choice : Stmt := top 28
abbrev N_law_choice : List Str := ["source", "items"]
theorem sc_law_choice : FnScope N_law_choice ["source", "items"] (defScope s_law_choice) := ⟨rfl, rfl, rfl, by decide +kernel, rfl, by decide +kernel, by decide +kernel⟩
abbrev s_law_packs : Stmt := top 29
abbrev N_law_packs : List Str := ["source", "most", "wide", "found", "base", "turn", "size", "near"]
theorem sc_law_packs : FnScope N_law_packs ["source", "most", "wide"] (defScope s_law_packs) := ⟨rfl, rfl, rfl, by decide +kernel, rfl, by decide +kernel, by decide +kernel⟩
abbrev s_law_shop : Stmt := top 30
abbrev N_law_shop : List Str := ["packs", "found", "pack"]
theorem sc_law_shop : FnScope N_law_shop ["packs"] (defScope s_law_shop) := ⟨rfl, rfl, rfl, by decide +kernel, rfl, by decide +kernel, by decide +kernel⟩
abbrev s_law : Stmt := top 31
abbrev N_law : List Str := ["script", "k", "source", "shop", "wide", "wishes", "turn", "one", "two", "whole", "index", "wish", "cart"]
theorem sc_law : FnScope N_law ["script"] (defScope s_law) := ⟨rfl, rfl, rfl, by decide +kernel, rfl, by decide +kernel, by decide +kernel⟩
abbrev s_PriceList_init : Stmt := inClass (top 16) 0
abbrev N_PriceList_init : List Str := ["self", "packs", "pack"]
theorem sc_PriceList_init : FnScope N_PriceList_init ["self", "packs"] (defScope s_PriceList_init) := ⟨rfl, rfl, rfl, by decide +kernel, rfl, by decide +kernel, by decide +kernel⟩
abbrev s_PriceList_packs : Stmt := inClass (top 16) 1
abbrev N_PriceList_packs : List Str := ["self"]
theorem sc_PriceList_packs : FnScope N_PriceList_packs ["self"] (defScope s_PriceList_packs) := ⟨rfl, rfl, rfl, by decide +kernel, rfl, by decide +kernel, by decide +kernel⟩
abbrev s_PriceList_price : Stmt := inClass (top 16) 2
abbrev N_PriceList_price : List Str := ["self", "number", "last", "size", "times"]
theorem sc_PriceList_price : FnScope N_PriceList_price ["self", "number"] (defScope s_PriceList_price) := ⟨rfl, rfl, rfl, by decide +kernel, rfl, by decide +kernel, by decide +kernel⟩
abbrev s_PriceList_call : Stmt := inClass (top 16) 3
abbrev N_PriceList_call : List Str := ["self", "number"]
theorem sc_PriceList_call : FnScope N_PriceList_call ["self", "number"] (defScope s_PriceList_call) := ⟨rfl, rfl, rfl, by decide +kernel, rfl, by decide +kernel, by decide +kernel⟩
abbrev s_PriceList_eq : Stmt := inClass (top 16) 4
abbrev N_PriceList_eq : List Str := ["self", "other"]
theorem sc_PriceList_eq : FnScope N_PriceList_eq ["self", "other"] (defScope s_PriceList_eq) := ⟨rfl, rfl, rfl, by decide +kernel, rfl, by decide +kernel, by decide +kernel⟩
abbrev s_PriceList_or : Stmt := inClass (top 16) 5
abbrev N_PriceList_or : List Str := ["self", "other", "packs"]
theorem sc_PriceList_or : FnScope N_PriceList_or ["self", "other"] (defScope s_PriceList_or) := ⟨rfl, rfl, rfl, by decide +kernel, rfl, by decide +kernel, by decide +kernel⟩
abbrev s_PriceList_contains : Stmt := inClass (top 16) 6
abbrev N_PriceList_contains : List Str := ["self", "value"]
theorem sc_PriceList_contains : FnScope N_PriceList_contains ["self", "value"] (defScope s_PriceList_contains) := ⟨rfl, rfl, rfl, by decide +kernel, rfl, by decide +kernel, by decide +kernel⟩
abbrev s_PriceList_len : Stmt := inClass (top 16) 7
abbrev N_PriceList_len : List Str := ["self"]
theorem sc_PriceList_len : FnScope N_PriceList_len ["self"] (defScope s_PriceList_len) := ⟨rfl, rfl, rfl, by decide +kernel, rfl, by decide +kernel, by decide +kernel⟩
abbrev s_PriceList_str : Stmt := inClass (top 16) 8
abbrev N_PriceList_str : List Str := ["self", "size", "price"]
theorem sc_PriceList_str : FnScope N_PriceList_str ["self"] (defScope s_PriceList_str) := ⟨rfl, rfl, rfl, by decide +kernel, rfl, by decide +kernel, by decide +kernel⟩
abbrev s_Cart_init : Stmt := inClass (top 24) 0
abbrev N_Cart_init : List Str := ["self", "shop"]
theorem sc_Cart_init : FnScope N_Cart_init ["self", "shop"] (defScope s_Cart_init) := ⟨rfl, rfl, rfl, by decide +kernel, rfl, by decide +kernel, by decide +kernel⟩
abbrev s_Cart_len : Stmt := inClass (top 24) 1
abbrev N_Cart_len : List Str := ["self"]
theorem sc_Cart_len : FnScope N_Cart_len ["self"] (defScope s_Cart_len) := ⟨rfl, rfl, rfl, by decide +kernel, rfl, by decide +kernel, by decide +kernel⟩
abbrev s_Cart_eq : Stmt := inClass (top 24) 2
abbrev N_Cart_eq : List Str := ["self", "other"]
theorem sc_Cart_eq : FnScope N_Cart_eq ["self", "other"] (defScope s_Cart_eq) := ⟨rfl, rfl, rfl, by decide +kernel, rfl, by decide +kernel, by decide +kernel⟩
abbrev s_Cart_want : Stmt := inClass (top 24) 3
abbrev N_Cart_want : List Str := ["self", "numbers", "number", "shop", "wished"]
theorem sc_Cart_want : FnScope N_Cart_want ["self", "numbers"] (defScope s_Cart_want) := ⟨rfl, rfl, rfl, by decide +kernel, rfl, by decide +kernel, by decide +kernel⟩
abbrev s_Cart_move : Stmt := inClass (top 24) 4
abbrev N_Cart_move : List Str := ["self", "shop"]
theorem sc_Cart_move : FnScope N_Cart_move ["self", "shop"] (defScope s_Cart_move) := ⟨rfl, rfl, rfl, by decide +kernel, rfl, by decide +kernel, by decide +kernel⟩
abbrev s_Cart_undo : Stmt := inClass (top 24) 5
abbrev N_Cart_undo : List Str := ["self"]
theorem sc_Cart_undo : FnScope N_Cart_undo ["self"] (defScope s_Cart_undo) := ⟨rfl, rfl, rfl, by decide +kernel, rfl, by decide +kernel, by decide +kernel⟩
abbrev s_Cart_wished : Stmt := inClass (top 24) 6
abbrev N_Cart_wished : List Str := ["self"]
theorem sc_Cart_wished : FnScope N_Cart_wished ["self"] (defScope s_Cart_wished) := ⟨rfl, rfl, rfl, by decide +kernel, rfl, by decide +kernel, by decide +kernel⟩
abbrev s_Cart_total : Stmt := inClass (top 24) 7
abbrev N_Cart_total : List Str := ["self", "shop", "wished"]
theorem sc_Cart_total : FnScope N_Cart_total ["self"] (defScope s_Cart_total) := ⟨rfl, rfl, rfl, by decide +kernel, rfl, by decide +kernel, by decide +kernel⟩
abbrev s_Cart_extra : Stmt := inClass (top 24) 8
abbrev N_Cart_extra : List Str := ["self", "shop", "wished"]
theorem sc_Cart_extra : FnScope N_Cart_extra ["self"] (defScope s_Cart_extra) := ⟨rfl, rfl, rfl, by decide +kernel, rfl, by decide +kernel, by decide +kernel⟩
/-- what the top has written, of the built-ins and the constants -/
structure Txt (K : PySem.W.Frag) (mg : Str → Option Value) (g : Cl) : Prop where
  shC : ShC K g
  len : mg "len" = none
  isinstance : mg "isinstance" = none
  int : mg "int" = none
  bool : mg "bool" = none
  tuple : mg "tuple" = none
  list : mg "list" = none
  range : mg "range" = none
  min : mg "min" = none
  max : mg "max" = none
  sorted : mg "sorted" = none
  set : mg "set" = none
  all : mg "all" = none
  sum : mg "sum" = none
  abs : mg "abs" = none
  pl : mg "PriceList" = some (.ref g.shop)
  mSize : ∃ t, mg "MOST_SIZE" = some (.int 30 t)
  mPrice : ∃ t, mg "MOST_PRICE" = some (.int 1000000 t)
  mPacks : ∃ t, mg "MOST_PACKS" = some (.int 30 t)
  mNumber : ∃ t, mg "MOST_NUMBER" = some (.int 1000000000000 t)
  kS : PySem.W.kitOne K (.ref g.shop) (.ref g.shop) = some true
section
variable {P : Program} {w : World} {K : PySem.W.Frag} {mg : Str → Option Value} {base : Heap} {g : Cl}
/-! ### is_between, is_pack -/
def isBtw : Dt → Int → Int → Bool
  | .int i, lo, hi => decide (lo ≤ i) && decide (i ≤ hi)
  | _, _, _ => false
def F_is_between : FM := fun ss R => ∃ d lo hi m, ss = [.im d, .im (.int lo), .im (.int hi)] ∧ kindD d = some m ∧ R (.im (.bl (isBtw d lo hi)))
theorem mono_is_between : Mono F_is_between := fun ss R R' k ⟨d, lo, hi, m, e, h, q⟩ => ⟨d, lo, hi, m, e, h, k _ q⟩
theorem ok_is_between {f : Addr} {fd : FuncData} (Fn : Fun K "is_between" "is_between" s_is_between f fd) (T : Txt K mg g) : FnOk P w K mg base CX0 1 f fd ["value", "low", "high"] (spS K g F_is_between) := by
  refine fn_body Fn sc_is_between (fun ss R h => ?_) (fun cdv A outer s H E Fr ss R hr h => ?_)
  · obtain ⟨d, lo, hi, m, rfl, _⟩ := h; rfl
  · obtain ⟨d, lo, hi, m, rfl, hd, q⟩ := h
    refine sw_cons (s_ret (ef_ew (ew_and (ew_callB T.isinstance bt_isinstance (aw_im (ew_name 0 rfl (aw_im (ew_ty T.int bt_int (aw_nil ?_)))))))))
    have fin : ∀ b, b = isBtw d lo hi → (deOf [Slot.im d, .im (.int lo), .im (.int hi)] R).rt (.im (.bl b)) [Slot.im d, .im (.int lo), .im (.int hi)] := fun b e => ⟨trivial, by rw [e]; exact q⟩
    cases d with
    | int i =>
      refine cw_isK (m := "int") rfl (kb _ _ true) ⟨true, rfl, fun _ => ?_, nofun⟩
      refine ew_and (ew_not (ew_callB T.isinstance bt_isinstance (aw_im (ew_name 0 rfl (aw_im (ew_ty T.bool bt_bool (aw_nil (cw_isK (m := "int") rfl (kb _ _ false) ⟨false, rfl, true, rfl, fun _ => ?_, nofun⟩))))))))
      refine ew_one (ew_chain (ew_name 1 rfl (ew_name 0 rfl (ow_leI ⟨_, rfl, fun h => ?_, fun h => ?_⟩))))
      · refine ew_name 2 rfl (ow_leI (fin _ ?_))
        simp only [isBtw, h, Bool.true_and]
      · exact fin _ (by simp only [isBtw, h, Bool.false_and])
    | bl b =>
      refine cw_isK (m := "bool") rfl (kb _ _ true) ⟨true, rfl, fun _ => ?_, nofun⟩
      exact ew_and (ew_not (ew_callB T.isinstance bt_isinstance (aw_im (ew_name 0 rfl (aw_im (ew_ty T.bool bt_bool (aw_nil (cw_isK (m := "bool") rfl (kb _ _ true) ⟨true, rfl, false, rfl, nofun, fun _ => fin _ rfl⟩))))))))
    | non => exact cw_isK rfl (kb "NoneType" "int" false) ⟨false, rfl, nofun, fun _ => fin _ rfl⟩
    | str x => exact cw_isK rfl (kb "str" "int" false) ⟨false, rfl, nofun, fun _ => fin _ rfl⟩
    | lst x => exact cw_isK rfl (kb "list" "int" false) ⟨false, rfl, nofun, fun _ => fin _ rfl⟩
    | tup x => exact cw_isK rfl (kb "tuple" "int" false) ⟨false, rfl, nofun, fun _ => fin _ rfl⟩
    | _ => cases hd
def isPk : Dt → Bool
  | .tup [a, b] => isBtw a 1 30 && isBtw b 1 1000000
  | _ => false
/-- plain data throughout -/
def kindsD : Dt → Prop
  | .tup xs => ∀ x ∈ xs, ∃ m, kindD x = some m
  | _ => True
def F_is_pack : FM := fun ss R => ∃ d m, ss = [.im d] ∧ kindD d = some m ∧ kindsD d ∧ R (.im (.bl (isPk d)))
theorem mono_is_pack : Mono F_is_pack := fun ss R R' k ⟨d, m, e, h, h2, q⟩ => ⟨d, m, e, h, h2, k _ q⟩
theorem isPk_pk (p : Pack) (h : OkPack p) : isPk (pk p) = true := by
  obtain ⟨h1, h2, h3, h4⟩ := h
  simp [isPk, pk, isBtw, h1, h2, h3, h4]
theorem ok_is_pack {f : Addr} {fd : FuncData} (Fn : Fun K "is_pack" "is_pack" s_is_pack f fd) (T : Txt K mg g) (G1 : FnD P w K mg base g 1 "is_between" F_is_between) : FnOk P w K mg base CX0 2 f fd ["value"] (spS K g F_is_pack) := by
  refine fn_body Fn sc_is_pack (fun ss R h => ?_) (fun cdv A outer s H E Fr ss R hr h => ?_)
  · obtain ⟨d, m, rfl, _⟩ := h; rfl
  · obtain ⟨d, m, rfl, hd, hk, q⟩ := h
    obtain ⟨ts, eS⟩ := T.mSize
    obtain ⟨tp, eP⟩ := T.mPrice
    have no : ∀ n, kindD d = some n → kitB n "tuple" = some false → isPk d = false → SW (cxOf CX0 P w K mg base ["value"] "is_pack" (defScope s_is_pack) f cdv A outer s H E).nox g Fr (defBody s_is_pack) [.im d] (deOf [Slot.im d] R) := fun n h1 h2 h3 => by
      refine sw_cons <| s_if <| tw_w <| ww_or <| tw_not <| tw_val <| ew_callB T.isinstance bt_isinstance <| aw_im <| ew_name 0 rfl <| aw_im <| ew_ty T.tuple bt_tuple <| aw_nil <| cw_isK h1 h2 ⟨false, rfl, fun _ => ⟨fun _ => ?_, nofun⟩, nofun⟩
      exact sw_cons <| s_ret <| ef_ew <| ew_bl ⟨trivial, by rw [h3] at q; exact q⟩
    cases d with
    | tup xs =>
      refine sw_cons <| s_if <| tw_w <| ww_or <| tw_not <| tw_val <| ew_callB T.isinstance bt_isinstance <| aw_im <| ew_name 0 rfl <| aw_im <| ew_ty T.tuple bt_tuple <| aw_nil <| cw_isK rfl (kb "tuple" "tuple" true) ⟨true, rfl, nofun, fun _ => ?_⟩
      refine ww_one <| tw_cmp <| ew_callB T.len bt_len <| aw_im <| ew_name 0 rfl <| aw_nil <| cw_len rfl <| ew_int <| ow_neI ⟨_, rfl, fun h => ?_, fun h => ?_⟩
      · refine sw_cons <| s_ret <| ef_ew <| ew_bl ⟨trivial, ?_⟩
        have : isPk (.tup xs) = false := by
          match xs, h with
          | [], _ => rfl
          | [_], _ => rfl
          | [_, _], h => simp at h
          | _ :: _ :: _ :: _, _ => rfl
        rw [this] at q; exact q
      · match xs, h, q, hk with
        | [a, b], _, q, hk =>
          obtain ⟨ma, ha⟩ := hk a (by simp)
          obtain ⟨mb, hb⟩ := hk b (by simp)
          refine sw_nil <| sw_cons <| s_ret <| ef_ew <| ew_and <| ew_call G1 (hr.mono (by decide)) <| aw_im <| ew_ix <| ew_name 0 rfl <| ew_int ⟨_, _, a, rfl, rfl, rfl, ?_⟩
          refine aw_im <| ew_int <| aw_im <| ew_globI eS <| aw_nil ⟨List.nodup_nil, a, 1, 30, ma, rfl, ha, _, rfl, _, rfl, fun h => ?_, fun h => ?_⟩
          · refine ew_one <| ew_call G1 (hr.mono (by decide)) <| aw_im <| ew_ix <| ew_name 0 rfl <| ew_int ⟨_, _, b, rfl, rfl, rfl, ?_⟩
            refine aw_im <| ew_int <| aw_im <| ew_globI eP <| aw_nil ⟨List.nodup_nil, b, 1, 1000000, mb, rfl, hb, _, rfl, trivial, ?_⟩
            have : isPk (.tup [a, b]) = isBtw b 1 1000000 := by simp [isPk, h]
            rw [this] at q; exact q
          · have : isPk (.tup [a, b]) = false := by simp [isPk, h]
            rw [this] at q; exact ⟨trivial, q⟩
        | [], h, _, _ => simp at h
        | [_], h, _, _ => simp at h
        | _ :: _ :: _ :: _, h, _, _ => simp at h; omega
    | int i => exact no _ rfl (kb _ _ _) rfl
    | bl b => exact no _ rfl (kb _ _ _) rfl
    | non => exact no _ rfl (kb _ _ _) rfl
    | str x => exact no _ rfl (kb _ _ _) rfl
    | lst x => exact no _ rfl (kb _ _ _) rfl
    | _ => cases hd

/-! ### prices_by -/
def F_prices_by : FM := fun ss R => ∃ dp packs most, ss = [.im dp, .im (.int most)] ∧ itemsOf dp = some (packs.map pk) ∧ (∀ p ∈ packs, 1 ≤ p.1) ∧ packs ≠ [] ∧ packs.length ≤ 1000 ∧ 0 ≤ most ∧ most ≤ 10000 ∧ R (.im (.lst ((tab packs most.toNat).map Dt.int)))
theorem mono_prices_by : Mono F_prices_by := fun ss R R' k ⟨dp, packs, most, a, b, c, d, e, f, h, q⟩ => ⟨dp, packs, most, a, b, c, d, e, f, h, k _ q⟩
theorem tab_snoc (packs : List Pack) (n : Nat) : tab packs (n + 1) = tab packs n ++ [minL (packs.map fun p => p.2 + (tab packs n).getD ((1 + (n : Int) - p.1).toNat) 0)] := by
  show tab packs n ++ [nextP packs (tab packs n)] = _
  unfold nextP
  rw [tab_len]
  congr 3
  apply List.map_congr_left
  intro p _
  have : (((n + 1 : Nat) : Int) - p.1) = 1 + (n : Int) - p.1 := by omega
  rw [this]
theorem at_getD {l : List Int} {k : Int} (h0 : 0 ≤ k) (hk : k < l.length) : atI (l.map Dt.int) k = some (.int (l.getD k.toNat 0)) := by
  unfold atI ixN
  rw [if_pos h0, List.length_map, if_pos hk]
  show (l.map Dt.int)[k.toNat]? = _
  rw [List.getElem?_map, List.getD_eq_getElem?_getD, List.getElem?_eq_getElem (by omega)]
  rfl
theorem ok_prices_by {f : Addr} {fd : FuncData} (Fn : Fun K "prices_by" "prices_by" s_prices_by f fd) (T : Txt K mg g) : FnOk P w K mg base CX0 1 f fd ["packs", "most"] (spS K g F_prices_by) := by
  refine fn_body Fn sc_prices_by (fun ss R h => ?_) (fun cdv A outer s H E Fr ss R hr h => ?_)
  · obtain ⟨dp, packs, most, rfl, _⟩ := h; rfl
  · obtain ⟨dp, packs, most, rfl, hx, hp, hne, hl, h0, h1, q⟩ := h
    have hN : N_prices_by.Nodup := sc_prices_by.nd
    refine sw_cons <| s_set 2 hN <| ef_lst <| aw_im <| ew_int <| aw_nil ⟨_, rfl, by decide, fun p => ?_⟩
    refine sw_cons <| s_for rfl <| iw_r2 T.range <| ew_int <| ew_bin <| ew_name 1 rfl <| ew_int <| ow_addI ⟨1, most + 1, rfl, rfl, by omega, ?_⟩
    refine ⟨fun i S => ∃ z, S = [.im dp, .im (.int most), .own p (.lst ((tab packs i).map Dt.int)), z, .no, .no], ⟨_, rfl⟩, fun i x S' hxi hP => ?_, fun S' hP => ?_⟩
    · obtain ⟨z, rfl⟩ := hP
      have hi : i < (most + 1 - 1).toNat := by have := (List.getElem?_eq_some_iff.mp hxi).1; rwa [rangeD_len] at this
      rw [rangeD_get hi] at hxi
      cases hxi
      refine gw_name 3 hN ?_
      refine sw_cons <| s_app 2 rfl <| ew_callB T.min bt_min <| aw_im <| ew_lc [("size", 4), ("price", 5)] rfl hN (blkOk_by (N := N_prices_by) (sc := defScope s_prices_by) (by decide +kernel)) <| iw_s <| ew_name 0 rfl ⟨packs.map pk, hx, rfl, ?_⟩
      refine lc_map (f := fun p => Dt.int (p.2 + (tab packs i).getD ((1 + (i : Int) - p.1).toNat) 0)) packs (by omega) (fun Fr' j a ha s H' C cl fp => ?_) ?_
      · have ha1 := hp a (List.mem_of_getElem? ha)
        refine gv_tup rfl <| gvs_cons <| gv_name 4 hN <| gvs_cons <| gv_name 5 hN <| gvs_nil fun s H' C cl fp => ?_
        refine ew_bin <| ew_name 5 rfl <| ew_ixO 2 rfl <| ew_callB T.max bt_max <| aw_im <| ew_int <| aw_im <| ew_bin <| ew_name 3 rfl <| ew_name 4 rfl <| ow_subI <| aw_nil <| cw_max2 rfl ?_
        refine ⟨_, _, _, rfl, rfl, at_getD (by split <;> omega) (by rw [tab_len]; split <;> omega), ow_addI ⟨rfl, ?_⟩⟩
        have : (if 1 + (i : Int) - a.1 > 0 then 1 + (i : Int) - a.1 else 0).toNat = (1 + (i : Int) - a.1).toNat := by split <;> omega
        rw [this]
      · refine aw_nil ?_
        have e : packs.map (fun p => Dt.int (p.2 + (tab packs i).getD ((1 + (i : Int) - p.1).toNat) 0)) = (packs.map fun p => p.2 + (tab packs i).getD ((1 + (i : Int) - p.1).toNat) 0).map Dt.int := by simp
        rw [e]
        refine cw_minL rfl (by simpa using hne) ⟨_, rfl, by rw [List.length_map, tab_len]; omega, sw_nil ⟨.im (.int (1 + (i : Int))), ?_⟩⟩
        rw [tab_snoc, List.map_append]; rfl
    · obtain ⟨z, rfl⟩ := hP
      have e : (rangeD 1 (most + 1 - 1).toNat).length = most.toNat := by rw [rangeD_len]; omega
      rw [e]
      exact sw_freeze 2 rfl <| sw_cons <| s_ret <| ef_ew <| ew_name 2 rfl ⟨trivial, q⟩

/-! ### needed_of, best_pack -/
theorem tab_last (packs : List Pack) (n : Nat) : ((tab packs n).map Dt.int).getLast? = some (.int (pr packs n)) := by
  rw [List.getLast?_eq_getElem?, List.length_map, tab_len, List.getElem?_map]
  have := tab_getD packs n n (Nat.le_refl _)
  rw [List.getD_eq_getElem?_getD] at this
  have hl : n < (tab packs n).length := by rw [tab_len]; omega
  rw [List.getElem?_eq_getElem hl] at this
  simp only [Option.getD_some] at this
  rw [show n + 1 - 1 = n from rfl, List.getElem?_eq_getElem hl, this]; rfl
def F_needed_of : FM := fun ss R => ∃ packs, ss = [.im (.tup (packs.map pk))] ∧ (∀ p ∈ packs, OkPack p) ∧ packs.length < 64 ∧ R (.im (.tup ((neededOf packs).map pk)))
theorem mono_needed_of : Mono F_needed_of := fun ss R R' k ⟨packs, a, b, c, q⟩ => ⟨packs, a, b, c, k _ q⟩
theorem pkB_of {p : Pack} (h : OkPack p) : PkB p := by
  obtain ⟨h1, h2, h3, h4⟩ := h
  unfold PkB; omega
theorem ok_needed_of {f : Addr} {fd : FuncData} (Fn : Fun K "needed_of" "needed_of" s_needed_of f fd) (T : Txt K mg g) (G1 : FnD P w K mg base g 1 "prices_by" F_prices_by) : FnOk P w K mg base CX0 2 f fd ["packs"] (spS K g F_needed_of) := by
  refine fn_body Fn sc_needed_of (fun ss R h => ?_) (fun cdv A outer s H E Fr ss R hr h => ?_)
  · obtain ⟨packs, rfl, _⟩ := h; rfl
  · obtain ⟨packs, rfl, hp, hl, q⟩ := h
    have hN : N_needed_of.Nodup := sc_needed_of.nd
    have hb : ∀ p ∈ packs, PkB p := fun p h => pkB_of (hp p h)
    refine sw_cons <| s_set 1 hN <| ef_ew <| ew_sset rfl hr.units T.sorted T.set <| ew_name 0 rfl ⟨packs, rfl, hb, hl, ?_⟩
    refine sw_cons <| s_for rfl <| iw_l <| ew_sset rfl hr.units T.sorted T.set <| ew_name 0 rfl ⟨packs, rfl, hb, hl, _, rfl, ?_⟩
    refine ⟨fun i S => ∃ z z', S = [.im (.tup (packs.map pk)), .im (.lst ((((srt packs).take i).foldl dropStep (srt packs)).map pk)), z, z', .no], ⟨_, _, rfl⟩, fun i x S' hxi hP => ?_, fun S' hP => ?_⟩
    · obtain ⟨z, z', rfl⟩ := hP
      obtain ⟨a, ha, rfl⟩ := get_map hxi
      refine gw_name 2 hN ?_
      let fo := ((srt packs).take i).foldl dropStep (srt packs)
      have hfo : ∀ x ∈ fo, OkPack x := fun x hx => hp x (mem_srt.mp (mem_foldDrop _ _ _ hx))
      have hfl : fo.length < 64 := Nat.lt_of_le_of_lt (Nat.le_trans (foldDrop_len _ _) (srt_len packs)) hl
      have hpa : OkPack a := hp a (mem_srt.mp (List.mem_of_getElem? ha))
      refine sw_cons <| s_setLc 3 [("other", 4)] rfl hN (blkOk_by (N := N_needed_of) (sc := defScope s_needed_of) (by decide +kernel)) <| iw_l <| ew_name 1 rfl ⟨_, rfl, rfl, ?_⟩
      refine lc_filter (f := pk) (fun o => decide (o ≠ a)) fo (by omega) (fun Fr' j o ho s H' C cl fp => ?_) ?_
      · refine gv_name 4 hN fun s H' C cl fp => ?_
        refine tw_cmp <| ew_name 4 rfl <| ew_name 2 rfl <| ow_neD hr.units (.pk _) (.pk _) fun k hk => ⟨k, rfl, ?_, rfl, fun _ s H' C cl fp => ew_name 4 rfl ⟨rfl, rfl⟩⟩
        rw [pk_inj] at hk
        cases k with
        | true => symm; simp only [decide_eq_true_eq]; exact fun e => absurd (hk.mpr e) (by simp)
        | false => symm; simp only [decide_eq_false_iff_not]; exact fun h => h (hk.mp rfl)
      · -- the test
        let rest := fo.filter fun o => decide (o ≠ a)
        have step : ((srt packs).take (i + 1)).foldl dropStep (srt packs) = if rest ≠ [] ∧ pr rest a.1.toNat ≤ a.2 then rest else fo := by
          rw [take_snoc ha, List.foldl_append]; rfl
        have hrest : ∀ p ∈ rest, OkPack p := fun p h => hfo p (List.mem_filter.mp h).1
        have hrl : rest.length ≤ fo.length := List.length_filter_le _ _
        have keepIt : ¬ (rest ≠ [] ∧ pr rest a.1.toNat ≤ a.2) → ∀ S2, S2 = ([.im (.tup (packs.map pk)), .im (.lst (fo.map pk)), .im (pk a), .im (.lst (rest.map pk)), .no] : List Slot) → ∃ z z', S2 = [.im (.tup (packs.map pk)), .im (.lst ((((srt packs).take (i + 1)).foldl dropStep (srt packs)).map pk)), z, z', .no] := fun hn S2 e => by
          rw [step, if_neg hn]; exact ⟨_, _, e⟩
        have dropIt : (rest ≠ [] ∧ pr rest a.1.toNat ≤ a.2) → ∀ S2, S2 = ([.im (.tup (packs.map pk)), .im (.lst (rest.map pk)), .im (pk a), .im (.lst (rest.map pk)), .no] : List Slot) → ∃ z z', S2 = [.im (.tup (packs.map pk)), .im (.lst ((((srt packs).take (i + 1)).foldl dropStep (srt packs)).map pk)), z, z', .no] := fun hn S2 e => by
          rw [step, if_pos hn]; exact ⟨_, _, e⟩
        refine sw_cons <| s_if <| tw_w <| ww_and <| tw_cmp <| ew_name 3 rfl <| ew_lst <| aw_nil ⟨[], rfl, by decide, ow_neD hr.units (.lstP _) (.lstP []) fun k hk => ⟨k, rfl, fun h1 => ?_, fun h1 => ?_⟩⟩
        · have hne : rest ≠ [] := fun e => by
            have : k = false := hk.mpr (by show Dt.lst (rest.map pk) = _; rw [e]; rfl)
            rw [this] at h1; cases h1
          refine ww_one <| tw_cmp <| ew_ix <| ew_call G1 (hr.mono (by decide)) <| aw_im <| ew_name 3 rfl <| aw_im <| ew_ix <| ew_name 2 rfl <| ew_int ⟨_, _, .int a.1, rfl, rfl, rfl, ?_⟩
          refine aw_nil ⟨List.nodup_nil, _, rest, a.1, rfl, rfl, fun p h => (hrest p h).1, hne, by omega, by have := hpa.1; omega, by have := hpa.2.1; omega, _, rfl, ?_⟩
          refine ew_minus <| ew_int ⟨1, rfl, _, -1, _, rfl, rfl, at_last (tab_last _ _), ?_⟩
          refine ew_ix <| ew_name 2 rfl <| ew_int ⟨_, _, .int a.2, rfl, rfl, rfl, ow_leI ⟨_, rfl, fun h2 => ?_, fun h2 => ?_⟩⟩
          · refine sw_cons <| s_set 1 hN <| ef_ew <| ew_name 3 rfl <| sw_nil <| sw_nil <| dropIt ⟨hne, by simpa using h2⟩ _ rfl
          · exact sw_nil <| sw_nil <| keepIt (fun h => by simp at h2; omega) _ rfl
        · refine ⟨nofun, fun _ => sw_nil <| sw_nil <| keepIt (fun h => h.1 ?_) _ rfl⟩
          have := hk.mp h1
          simp only [Dt.lst.injEq, List.map_eq_nil_iff] at this
          exact this
    · obtain ⟨z, z', rfl⟩ := hP
      rw [List.length_map, List.take_length]
      exact sw_cons <| s_ret <| ef_ew <| ew_callTy T.tuple bt_tuple <| aw_im <| ew_name 1 rfl <| aw_nil <| cw_tupleL ⟨trivial, q⟩
def F_best_pack : FM := fun ss R => ∃ ps, ss = [.im (.tup (ps.map pk))] ∧ ps ≠ [] ∧ (∀ p ∈ ps, OkPack p) ∧ R (.im (pk (bestOf ps)))
theorem mono_best_pack : Mono F_best_pack := fun ss R R' k ⟨packs, a, b, c, q⟩ => ⟨packs, a, b, c, k _ q⟩
theorem at_pk1 (p : Pack) : atI [Dt.int p.1, .int p.2] 0 = some (.int p.1) := rfl
theorem at_pk2 (p : Pack) : atI [Dt.int p.1, .int p.2] 1 = some (.int p.2) := rfl
theorem ok_best_pack {f : Addr} {fd : FuncData} (Fn : Fun K "best_pack" "best_pack" s_best_pack f fd) (T : Txt K mg g) : FnOk P w K mg base CX0 1 f fd ["packs"] (spS K g F_best_pack) := by
  refine fn_body Fn sc_best_pack (fun ss R h => ?_) (fun cdv A outer s H E Fr ss R hr h => ?_)
  · obtain ⟨packs, rfl, _⟩ := h; rfl
  · obtain ⟨ps, rfl, hne, hp, q⟩ := h
    have hN : N_best_pack.Nodup := sc_best_pack.nd
    have h0 : atI (ps.map pk) 0 = some (pk (ps.headD (1, 1))) := by cases ps with
      | nil => exact absurd rfl hne
      | cons p r => simp [atI, ixN]
    have hok : ∀ i, OkPack ((ps.take i).foldl (fun f p => if p.2 * f.1 < f.2 * p.1 then p else f) (ps.headD (1, 1))) := fun i => by
      rcases foldBest_mem (ps.take i) (ps.headD (1, 1)) with e | e
      · rw [e]
        cases ps with
        | nil => exact absurd rfl hne
        | cons p r => exact hp p List.mem_cons_self
      · exact hp _ (List.mem_of_mem_take e)
    refine sw_cons <| s_set 1 hN <| ef_ew <| ew_ix <| ew_name 0 rfl <| ew_int ⟨_, _, _, rfl, rfl, h0, ?_⟩
    refine sw_cons <| s_for rfl <| iw_t <| ew_name 0 rfl ⟨_, rfl, ?_⟩
    refine ⟨fun i S => ∃ z z', S = [.im (.tup (ps.map pk)), .im (pk ((ps.take i).foldl (fun f p => if p.2 * f.1 < f.2 * p.1 then p else f) (ps.headD (1, 1)))), z, z'], ⟨_, _, rfl⟩, fun i x S' hxi hP => ?_, fun S' hP => ?_⟩
    · obtain ⟨z, z', rfl⟩ := hP
      obtain ⟨a, ha, rfl⟩ := get_map hxi
      have hpa : OkPack a := hp a (List.mem_of_getElem? ha)
      have hpf := hok i
      have stepB : ((ps.take (i + 1)).foldl (fun f p => if p.2 * f.1 < f.2 * p.1 then p else f) (ps.headD (1, 1))) = (fun f p => if p.2 * f.1 < f.2 * p.1 then p else f) ((ps.take i).foldl (fun f p => if p.2 * f.1 < f.2 * p.1 then p else f) (ps.headD (1, 1))) a := by rw [take_snoc ha, List.foldl_append]; rfl
      have fin : ∀ c, c = ((ps.take (i + 1)).foldl (fun f p => if p.2 * f.1 < f.2 * p.1 then p else f) (ps.headD (1, 1))) → ∀ S2, S2 = ([.im (.tup (ps.map pk)), .im (pk c), .im (.int a.1), .im (.int a.2)] : List Slot) → ∃ z z', S2 = [.im (.tup (ps.map pk)), .im (pk ((ps.take (i + 1)).foldl (fun f p => if p.2 * f.1 < f.2 * p.1 then p else f) (ps.headD (1, 1)))), z, z'] := fun c e S2 e2 => by rw [← e]; exact ⟨_, _, e2⟩
      generalize hb : (ps.take i).foldl (fun f p => if p.2 * f.1 < f.2 * p.1 then p else f) (ps.headD (1, 1)) = b at hpf stepB ⊢
      refine gw_tup rfl <| gsw_cons <| gw_name 2 hN <| gsw_cons <| gw_name 3 hN <| gsw_nil ?_
      obtain ⟨a1, a2, a3, a4⟩ := hpa
      obtain ⟨b1, b2, b3, b4⟩ := hpf
      refine sw_cons <| s_if <| tw_cmp <| ew_bin <| ew_name 3 rfl <| ew_ix <| ew_name 1 rfl <| ew_int ⟨_, _, _, rfl, rfl, at_pk1 b, ow_mulI (by omega) ?_⟩
      refine ew_bin <| ew_ix <| ew_name 1 rfl <| ew_int ⟨_, _, _, rfl, rfl, at_pk2 b, ew_name 2 rfl <| ow_mulI (by omega) <| ow_ltI ⟨_, rfl, fun h => ?_, fun h => ?_⟩⟩
      · refine sw_cons <| s_set 1 hN <| ef_ew <| ew_tup <| aw_im <| ew_name 2 rfl <| aw_im <| ew_name 3 rfl <| aw_nil ⟨_, rfl, by show 2 ≤ 10000; decide, sw_nil <| sw_nil <| fin a (by rw [stepB]; exact (if_pos (by simpa using h)).symm) _ rfl⟩
      · exact sw_nil <| sw_nil <| fin b (by rw [stepB]; exact (if_neg (by simpa using h)).symm) _ rfl
    · obtain ⟨z, z', rfl⟩ := hP
      rw [List.length_map, List.take_length]
      exact sw_cons <| s_ret <| ef_ew <| ew_name 1 rfl ⟨trivial, q⟩

/-! ### PriceList: made, read, called -/
/-- behind the body: how it ends, for a promise of one's own -/
theorem init_body {P : Program} {w : World} {K : PySem.W.Frag} {mg : Str → Option Value} {base : Heap} {g : Cl} {k : Nat} {f : Addr} {fd : FuncData} (Fn : Fun K "__init__" "PriceList.__init__" s_PriceList_init f fd)
    (body : ∀ (cdv : Value) (A : Around) (outer : List Env) (s : Shared) (H : Hp) (E : XK) (Fr : Hp) (p dx : Addr) (packs : List Pack), Room k (A.deeper (envOfC "PriceList.__init__" (defScope s_PriceList_init) s.heap.objs.size f cdv)) → packs ≠ [] → (∀ q ∈ packs, OkPack q) → packs.length ≤ 30 →
      SW (cxOf CX0 P w K mg base N_PriceList_init "PriceList.__init__" (defScope s_PriceList_init) f cdv A outer s H E).nox g Fr (defBody s_PriceList_init) [.own p (.obj g.shop dx []), .im (.tup (packs.map pk)), .no]
        { nx := fun S => ∃ z, S = [.own p (.obj g.shop dx [("needed", .tup ((neededOf packs).map pk)), ("best", pk (bestOf (neededOf packs))), ("known", .lst ((knownOf (neededOf packs)).map Dt.int))]), .im (.tup (packs.map pk)), z], rt := fun _ _ => False }) :
    FnR P w K mg base CX0 (k + 1) f (fun vs H Q E => ∃ ws rest, vs = ws ++ rest ∧ ws.length = 1 ∧ rest.length ≤ sizeLine ∧ ∀ p, H p = none → spInit K g (ws ++ [V.ref p]) (upd H p (.tup rest)) Q E) := by
  obtain ⟨oc, od, kV, doc, pm, an, cdv, ct, osl, rfl, lk, hcd⟩ := Fn.ex
  refine StX.fn_star (ps := ["self"]) (pv := "packs") (N := N_PriceList_init) lk hcd sc_PriceList_init StX.cxUp_none (StX.bind_star1 (B := fun l => bindArgs _ ⟨l, []⟩) (fun a => rfl) fun a r rs => rfl) fun A outer s H vs Q E hr h => ?_
  obtain ⟨Fr, H0, p, dx, packs, st, hne, hok, hl, k⟩ := h
  have hvl : vs.length = 2 := by simpa using st.len
  refine ⟨_, PSs.nox pss_sem, ?_⟩
  have s1 : StR K g Fr H0 H (L2.start N_PriceList_init vs) [.own p (.obj g.shop dx []), .im (.tup (packs.map pk)), .no] := by
    match vs, hvl with
    | [a, b], _ =>
      refine ⟨st.ex, st.fr, st.dis, rfl, fun i s h => ?_, st.nd, st.free⟩
      match i, h with
      | 0, h => cases h; exact st.sl 0 _ rfl
      | 1, h => cases h; exact st.sl 1 _ rfl
      | 2, h => cases h; trivial
      | n + 3, h => simp at h
  refine semSs_mono (body cdv A outer s H E Fr p dx packs hr hne hok hl _ _ _ s1) ⟨fun σ' H' ⟨S', H0', e, st', z, eS⟩ => ?_, fun v H' ⟨r, S', σ', H0', e, st', q⟩ => q.elim, fun _ _ ⟨_, _, _, _, q⟩ => q.elim, fun _ _ ⟨_, _, _, _, q⟩ => q.elim⟩
  subst eS
  refine k H0' H' e ?_
  match vs, hvl with
  | [a, b], _ =>
    refine ⟨st'.ex, st'.fr, st'.dis, rfl, fun i s h => ?_, by simpa [Slot.fp, OD.fp] using st.nd, fun a ha => st'.free a (by simp [Slot.fp, OD.fp] at ha ⊢; rcases ha with q | q; exact .inl q; exact .inr (.inl q))⟩
    match i, h with
    | 0, h =>
      cases h
      refine ⟨?_, (st'.own_at (i := 0) rfl).2⟩
      exact (st.own_at (i := 0) rfl).1
    | 1, h =>
      cases h
      obtain ⟨v, h1, h2⟩ := SlR.at st (i := 1) rfl
      exact ⟨v, h1, h2.mono e⟩
    | n + 2, h => simp at h
theorem ok_init {f : Addr} {fd : FuncData} (Fn : Fun K "__init__" "PriceList.__init__" s_PriceList_init f fd) (T : Txt K mg g) (G1 : FnD P w K mg base g 2 "is_pack" F_is_pack) (G2 : FnD P w K mg base g 2 "needed_of" F_needed_of) (G3 : FnD P w K mg base g 1 "best_pack" F_best_pack) (G4 : FnD P w K mg base g 1 "prices_by" F_prices_by) :
    FnR P w K mg base CX0 3 f (fun vs H Q E => ∃ ws rest, vs = ws ++ rest ∧ ws.length = 1 ∧ rest.length ≤ sizeLine ∧ ∀ p, H p = none → spInit K g (ws ++ [V.ref p]) (upd H p (.tup rest)) Q E) := by
  refine init_body Fn fun cdv A outer s H E Fr p dx packs hr hne hok hl => ?_
  have hN : N_PriceList_init.Nodup := sc_PriceList_init.nd
  have C := T.shC
  obtain ⟨tp, eP⟩ := T.mPacks
  have hn1 : neededOf packs ≠ [] := neededOf_ne hne
  have hok1 : ∀ p ∈ neededOf packs, OkPack p := fun p h => hok p (mem_neededOf h)
  have hlen : 1 ≤ packs.length := List.length_pos_iff.mpr hne
  have hpl : (packs.map pk).length = packs.length := List.length_map ..
  -- the test
  refine sw_cons <| s_if <| tw_w <| ww_or <| tw_not <| tw_chain <| ew_int <| ew_callB T.len bt_len <| aw_im <| ew_name 1 rfl <| aw_nil <| cw_len rfl <| ow_leI ⟨_, rfl, fun h => ?_, fun h => ?_⟩
  · refine ew_globI eP <| ow_leI ⟨_, rfl, fun h2 => ?_, fun h2 => ?_⟩
    · rw [hpl] at h2; simp at h2; omega
    · refine ww_one <| tw_not <| tw_val <| ew_callB T.all bt_all <| aw_im <| ew_lc [("pack", 2)] rfl hN (blkOk_by (N := N_PriceList_init) (sc := defScope s_PriceList_init) (by decide +kernel)) <| iw_t <| ew_name 1 rfl ⟨_, rfl, rfl, ?_⟩
      refine lc_map (f := fun _ => Dt.bl true) packs (by omega) (fun Fr' j a ha s H' C' cl fp => ?_) ?_
      · refine gv_name 2 hN fun s H' C' cl fp => ?_
        refine ew_call G1 (hr.mono (by decide)) <| aw_im <| ew_name 2 rfl <| aw_nil ⟨List.nodup_nil, pk a, "tuple", rfl, rfl, fun x hx => ?_, _, rfl, rfl, ?_⟩
        · simp only [List.mem_cons, List.not_mem_nil, or_false] at hx
          rcases hx with e | e <;> subst e <;> exact ⟨"int", rfl⟩
        · rw [isPk_pk a (hok a (List.mem_of_getElem? ha))]
      · refine aw_nil ?_
        have e : packs.map (fun _ => Dt.bl true) = (packs.map fun _ => true).map Dt.bl := by simp
        rw [e]
        refine cw_all rfl ⟨_, rfl, fun h => ?_, fun _ => sw_nil ?_⟩
        · simp at h
        · -- the fields
          refine sw_cons <| s_fldO 0 rfl C.isi.cl C.nN <| ew_call G2 hr <| aw_im <| ew_name 1 rfl <| aw_nil ⟨List.nodup_nil, packs, rfl, hok, by omega, _, rfl, _, rfl, by decide, ?_⟩
          rw [put1]
          refine sw_cons <| s_fldO 0 rfl C.isi.cl C.nB <| ew_call G3 (hr.mono (by decide)) <| aw_im <| ew_fldO 0 rfl C.isi.cl C.nN rfl <| aw_nil ⟨List.nodup_nil, neededOf packs, rfl, hn1, hok1, _, rfl, _, rfl, by show 1 < 100; decide, ?_⟩
          rw [put2]
          have hb := hok1 _ (bestOf_mem hn1)
          have hla := hok1 _ (lastOf_mem hn1)
          obtain ⟨b1, b2, _⟩ := hb
          obtain ⟨l1, l2, _⟩ := hla
          have h900 : 0 ≤ (bestOf (neededOf packs)).1 * (lastOf (neededOf packs)).1 ∧ (bestOf (neededOf packs)).1 * (lastOf (neededOf packs)).1 ≤ 900 := by
            constructor
            · exact Int.mul_nonneg (by omega) (by omega)
            · have := Int.mul_le_mul b2 l2 (by omega) (by omega)
              omega
          refine sw_cons <| s_fldO 0 rfl C.isi.cl C.nK <| ew_call G4 (hr.mono (by decide)) <| aw_im <| ew_fldO 0 rfl C.isi.cl C.nN (lookN _ _) <| aw_im <| ew_bin <| ew_ix <| ew_fldO 0 rfl C.isi.cl C.nB (lookB _ _) <| ew_int ⟨_, _, _, rfl, rfl, at_pk1 _, ?_⟩
          have hlast : ((neededOf packs).map pk).getLast? = some (pk (lastOf (neededOf packs))) := by
            rw [List.getLast?_map, last_at hn1]; rfl
          refine ew_ix <| ew_ix <| ew_fldO 0 rfl C.isi.cl C.nN (lookN _ _) <| ew_minus <| ew_int ⟨1, rfl, _, -1, _, rfl, rfl, at_last hlast, ?_⟩
          refine ew_int ⟨_, _, _, rfl, rfl, at_pk1 _, ow_mulI (by omega) <| aw_nil ⟨List.nodup_nil, _, neededOf packs, _, rfl, rfl, fun p h => (hok1 p h).1, hn1, ?_, h900.1, by omega, _, rfl, _, rfl, by show 2 < 100; decide, sw_nil ⟨.no, ?_⟩⟩⟩
          · exact Nat.le_trans (neededOf_len packs) (by omega)
          · rw [put3]; rfl
  · rw [hpl] at h; simp at h; omega

/-! ### a price list: its packs, a price -/
theorem ok_packs {f : Addr} {fd : FuncData} (Fn : Fun K "packs" "PriceList.packs" s_PriceList_packs f fd) (T : Txt K mg g) : FnOk P w K mg base CX0 1 f fd ["self"] (spS K g fun ss R => ∃ ps, ss = [.im (.shop ps)] ∧ R (.im (.tup (ps.map pk)))) := by
  refine fn_body Fn sc_PriceList_packs (fun ss R h => ?_) (fun cdv A outer s H E Fr ss R hr h => ?_)
  · obtain ⟨ps, rfl, _⟩ := h; rfl
  · obtain ⟨ps, rfl, q⟩ := h
    exact sw_cons <| s_ret <| ef_ew <| ew_fldN T.shC <| ew_name 0 rfl ⟨ps, rfl, trivial, q⟩
def F_price : FM := fun ss R => ∃ ps n, ss = [.im (.shop ps), .im (.int n)] ∧ OkShop ps ∧ 0 ≤ n ∧ R (.im (.int (pr ps n.toNat)))
theorem mono_price : Mono F_price := fun ss R R' k ⟨ps, n, a, b, c, q⟩ => ⟨ps, n, a, b, c, k _ q⟩
theorem known_at {ps : List Pack} {k : Int} (h0 : 0 ≤ k) (hk : k ≤ topOf ps) : atI ((knownOf ps).map Dt.int) k = some (.int (pr ps k.toNat)) := by
  rw [at_getD h0 (by unfold knownOf; rw [tab_len]; omega)]
  unfold knownOf
  rw [tab_getD _ _ _ (by omega)]
theorem ok_price {f : Addr} {fd : FuncData} (Fn : Fun K "price" "PriceList.price" s_PriceList_price f fd) (T : Txt K mg g) : FnOk P w K mg base CX0 1 f fd ["self", "number"] (spS K g F_price) := by
  refine fn_body Fn sc_PriceList_price (fun ss R h => ?_) (fun cdv A outer s H E Fr ss R hr h => ?_)
  · obtain ⟨ps, n, rfl, _⟩ := h; rfl
  · obtain ⟨ps, n, rfl, ok, h0, q⟩ := h
    have hN : N_PriceList_price.Nodup := sc_PriceList_price.nd
    have C := T.shC
    have hb := ok.ok _ (bestOf_mem ok.ne)
    obtain ⟨b1, b2, b3, b4⟩ := hb
    have hkl : ((knownOf ps).map Dt.int).length = topOf ps + 1 := by rw [List.length_map]; exact tab_len _ _
    rw [← priceOf_eq ok h0] at q
    unfold priceOf at q
    dsimp only at q
    refine sw_cons <| s_par 2 3 rfl hN <| aw_im <| ew_bin <| ew_callB T.len bt_len <| aw_im <| ew_fldK C <| ew_name 0 rfl ⟨ps, rfl, aw_nil <| cw_len rfl <| ew_int <| ow_subI ?_⟩
    refine aw_im <| ew_ix <| ew_fldB C <| ew_name 0 rfl ⟨ps, rfl, ew_int ⟨_, _, _, rfl, rfl, at_pk1 _, aw_nil ⟨_, _, rfl, ?_⟩⟩⟩
    rw [hkl, show ((topOf ps + 1 : Nat) : Int) - 1 = (topOf ps : Int) by omega]
    refine sw_cons <| s_if <| tw_cmp <| ew_name 1 rfl <| ew_name 2 rfl <| ow_leI ⟨_, rfl, fun h => ?_, fun h => ?_⟩
    · have h : n ≤ topOf ps := by simpa using h
      rw [if_pos h] at q
      exact sw_cons <| s_ret <| ef_ew <| ew_ix <| ew_fldK C <| ew_name 0 rfl ⟨ps, rfl, ew_name 1 rfl ⟨_, _, _, rfl, rfl, known_at h0 h, trivial, q⟩⟩
    · have h : ¬ n ≤ topOf ps := by simpa using h
      rw [if_neg h] at q
      refine sw_nil <| sw_cons <| s_set 4 hN <| ef_ew <| ew_bin <| ew_bin <| ew_bin <| ew_bin <| ew_name 1 rfl <| ew_name 2 rfl <| ow_subI <| ew_name 3 rfl <| ow_addI <| ew_int <| ow_subI <| ew_name 3 rfl <| ow_divI (by omega) ?_
      have d1 := Int.mul_ediv_add_emod (n - (topOf ps : Int) + (bestOf ps).1 - 1) (bestOf ps).1
      have d2 := Int.emod_nonneg (n - (topOf ps : Int) + (bestOf ps).1 - 1) (b := (bestOf ps).1) (by omega)
      have d3 := Int.emod_lt_of_pos (n - (topOf ps : Int) + (bestOf ps).1 - 1) (b := (bestOf ps).1) (by omega)
      generalize (n - (topOf ps : Int) + (bestOf ps).1 - 1) / (bestOf ps).1 = t at q d1 ⊢
      have e1 : (bestOf ps).1 * t = t * (bestOf ps).1 := Int.mul_comm _ _
      have l1 := (ok.ok _ (lastOf_mem ok.ne)).1
      have htop : (bestOf ps).1.toNat ≤ topOf ps := by rw [ok.top]; exact Nat.le_mul_of_pos_right _ (by omega)
      refine sw_cons <| s_ret <| ef_ew <| ew_bin <| ew_ix <| ew_fldK C <| ew_name 0 rfl ⟨ps, rfl, ew_bin <| ew_name 1 rfl <| ew_bin <| ew_name 4 rfl <| ew_name 3 rfl <| ow_mulI (by omega) <| ow_subI ⟨_, _, _, rfl, rfl, known_at (by omega) (by omega), ?_⟩⟩
      refine ew_bin <| ew_name 4 rfl <| ew_ix <| ew_fldB C <| ew_name 0 rfl ⟨ps, rfl, ew_int ⟨_, _, _, rfl, rfl, at_pk2 _, ow_mulI (by omega) <| ow_addI ⟨trivial, q⟩⟩⟩
/-! ### need_number, need_shop, __call__ -/
def F_need_number : FM := fun ss R => ∃ n lo hi, ss = [.im (.int n), .im (.int lo), .im (.int hi)] ∧ lo ≤ n ∧ n ≤ hi ∧ R (.im .non)
theorem mono_need_number : Mono F_need_number := fun ss R R' k ⟨n, lo, hi, a, b, c, q⟩ => ⟨n, lo, hi, a, b, c, k _ q⟩
theorem ok_need_number {f : Addr} {fd : FuncData} (Fn : Fun K "need_number" "need_number" s_need_number f fd) (T : Txt K mg g) (G1 : FnD P w K mg base g 1 "is_between" F_is_between) : FnOk P w K mg base CX0 2 f fd ["number", "low", "high"] (spS K g F_need_number) := by
  refine fn_body Fn sc_need_number (fun ss R h => ?_) (fun cdv A outer s H E Fr ss R hr h => ?_)
  · obtain ⟨n, lo, hi, rfl, _⟩ := h; rfl
  · obtain ⟨n, lo, hi, rfl, h1, h2, q⟩ := h
    refine sw_cons <| s_if <| tw_not <| tw_val <| ew_call G1 hr <| aw_im <| ew_name 0 rfl <| aw_im <| ew_name 1 rfl <| aw_im <| ew_name 2 rfl <| aw_nil ⟨List.nodup_nil, _, lo, hi, "int", rfl, rfl, _, rfl, _, rfl, fun h => ?_, fun h => sw_nil <| sw_nil ⟨trivial, q⟩⟩
    simp [isBtw, h1, h2] at h
def F_need_shop : FM := fun ss R => ∃ ps, ss = [.im (.shop ps)] ∧ R (.im .non)
theorem mono_need_shop : Mono F_need_shop := fun ss R R' k ⟨n, a, q⟩ => ⟨n, a, k _ q⟩
theorem ok_need_shop {f : Addr} {fd : FuncData} (Fn : Fun K "need_shop" "need_shop" s_need_shop f fd) (T : Txt K mg g) : FnOk P w K mg base CX0 1 f fd ["shop"] (spS K g F_need_shop) := by
  refine fn_body Fn sc_need_shop (fun ss R h => ?_) (fun cdv A outer s H E Fr ss R hr h => ?_)
  · obtain ⟨n, rfl, _⟩ := h; rfl
  · obtain ⟨ps, rfl, q⟩ := h
    exact sw_cons <| s_if <| tw_not <| tw_val <| ew_callB T.isinstance bt_isinstance <| aw_im <| ew_name 0 rfl <| aw_im <| ew_cls T.pl <| aw_nil <| cw_isShop T.shC.isi T.kS ⟨_, rfl, nofun, fun _ => sw_nil <| sw_nil ⟨trivial, q⟩⟩
def F_call : FM := fun ss R => ∃ ps n, ss = [.im (.shop ps), .im (.int n)] ∧ OkShop ps ∧ 0 ≤ n ∧ n ≤ 1000000000000 ∧ R (.im (.int (pr ps n.toNat)))
theorem mono_call : Mono F_call := fun ss R R' k ⟨ps, n, a, b, c, d, q⟩ => ⟨ps, n, a, b, c, d, k _ q⟩
theorem ok_call {f : Addr} {fd : FuncData} (Fn : Fun K "__call__" "PriceList.__call__" s_PriceList_call f fd) (T : Txt K mg g) (G1 : FnD P w K mg base g 2 "need_number" F_need_number) (G2 : MtD P w K mg base g 1 g.shop "price" F_price) : FnOk P w K mg base CX0 3 f fd ["self", "number"] (spS K g F_call) := by
  refine fn_body Fn sc_PriceList_call (fun ss R h => ?_) (fun cdv A outer s H E Fr ss R hr h => ?_)
  · obtain ⟨ps, n, rfl, _⟩ := h; rfl
  · obtain ⟨ps, n, rfl, ok, h0, h1, q⟩ := h
    obtain ⟨tn, eN⟩ := T.mNumber
    refine sw_cons <| s_expr <| ew_call G1 hr <| aw_im <| ew_name 1 rfl <| aw_im <| ew_int <| aw_im <| ew_globI eN <| aw_nil ⟨List.nodup_nil, n, 0, _, rfl, h0, h1, _, rfl, ?_⟩
    exact sw_cons <| s_ret <| ef_meth T.shC G2 (hr.mono (by decide)) <| ew_name 0 rfl ⟨ps, rfl, aw_im <| ew_name 1 rfl <| aw_nil ⟨List.nodup_nil, ps, n, rfl, ok, h0, trivial, q⟩⟩

/-! ### price lists put together, compared -/
def F_or : FM := fun ss R => ∃ ps qs, ss = [.im (.shop ps), .im (.shop qs)] ∧ OkShop ps ∧ OkShop qs ∧ R (.im (.shop (neededOf (ps ++ qs))))
theorem mono_or : Mono F_or := fun ss R R' k ⟨ps, qs, a, b, c, q⟩ => ⟨ps, qs, a, b, c, k _ q⟩
theorem ok_or {f : Addr} {fd : FuncData} (Fn : Fun K "__or__" "PriceList.__or__" s_PriceList_or f fd) (T : Txt K mg g) (G1 : FnD P w K mg base g 2 "needed_of" F_needed_of) (M : MkS P w K mg base g 3) : FnOk P w K mg base CX0 5 f fd ["self", "other"] (spS K g F_or) := by
  refine fn_body Fn sc_PriceList_or (fun ss R h => ?_) (fun cdv A outer s H E Fr ss R hr h => ?_)
  · obtain ⟨ps, qs, rfl, _⟩ := h; rfl
  · obtain ⟨ps, qs, rfl, ok, ok', q⟩ := h
    have hN : N_PriceList_or.Nodup := sc_PriceList_or.nd
    have C := T.shC
    have hok : ∀ p ∈ ps ++ qs, OkPack p := fun p hp => by rcases List.mem_append.mp hp with h | h; exact ok.ok p h; exact ok'.ok p h
    have hp := ok.pks.app ok'.pks
    have f1 := ok.few
    have f2 := ok'.few
    refine sw_cons <| s_if <| tw_not <| tw_val <| ew_callB T.isinstance bt_isinstance <| aw_im <| ew_name 1 rfl <| aw_im <| ew_cls T.pl <| aw_nil <| cw_isShop C.isi T.kS ⟨_, rfl, nofun, fun _ => sw_nil ?_⟩
    refine sw_cons <| s_set 2 hN <| ef_ew <| ew_call G1 (hr.mono (by decide)) <| aw_im <| ew_bin <| ew_fldN C <| ew_name 0 rfl ⟨ps, rfl, ew_fldN C <| ew_name 1 rfl ⟨qs, rfl, ow_catT (by simp; omega) <| aw_nil ⟨List.nodup_nil, ps ++ qs, by rw [List.map_append], hok, by rw [List.length_append]; omega, _, rfl, ?_⟩⟩⟩
    refine sw_cons <| s_ret <| ef_ew <| ew_makeS M hr <| ew_name 2 rfl ⟨neededOf (ps ++ qs), rfl, neededOf_ne hp.ne, fun p h => hok p (mem_neededOf h), needed_few hp fun p h => (hok p h).2.1, trivial, ?_⟩
    rw [needed_idem hp]; exact q
def F_eq : FM := fun ss R => ∃ ps qs, ss = [.im (.shop ps), .im (.shop qs)] ∧ R (.im (.bl (decide (ps = qs))))
theorem mono_eq : Mono F_eq := fun ss R R' k ⟨ps, qs, a, q⟩ => ⟨ps, qs, a, k _ q⟩
theorem ok_eq {f : Addr} {fd : FuncData} (Fn : Fun K "__eq__" "PriceList.__eq__" s_PriceList_eq f fd) (T : Txt K mg g) : FnOk P w K mg base CX0 1 f fd ["self", "other"] (spS K g F_eq) := by
  refine fn_body Fn sc_PriceList_eq (fun ss R h => ?_) (fun cdv A outer s H E Fr ss R hr h => ?_)
  · obtain ⟨ps, qs, rfl, _⟩ := h; rfl
  · obtain ⟨ps, qs, rfl, q⟩ := h
    have C := T.shC
    refine sw_cons <| s_if <| tw_not <| tw_val <| ew_callB T.isinstance bt_isinstance <| aw_im <| ew_name 1 rfl <| aw_im <| ew_cls T.pl <| aw_nil <| cw_isShop C.isi T.kS ⟨_, rfl, nofun, fun _ => sw_nil ?_⟩
    refine sw_cons <| s_ret <| ef_ew <| ew_cmp <| ew_fldN C <| ew_name 0 rfl ⟨ps, rfl, ew_fldN C <| ew_name 1 rfl ⟨qs, rfl, ow_eqD hr.units (.tupP _) (.tupP _) fun k hk => ⟨trivial, ?_⟩⟩⟩
    have : k = decide (ps = qs) := by
      rw [Dt.tup.injEq, map_pk_inj] at hk
      cases k with
      | true => exact (decide_eq_true (hk.mp rfl)).symm
      | false => exact (decide_eq_false fun e => by have := hk.mpr e; cases this).symm
    rw [this]; exact q
/-! ### the law's draws -/
def F_source : FM := fun ss R => ∃ ns k, ss = [.im (.scr ns), .im (.int k)] ∧ 0 ≤ k ∧ k ≤ 100 ∧ ∀ p, R (.own p .src)
theorem mono_source : Mono F_source := fun ss R R' k ⟨ns, i, a, b, c, q⟩ => ⟨ns, i, a, b, c, fun p => k _ (q p)⟩
theorem ok_source {f : Addr} {fd : FuncData} (Fn : Fun K "_law_source" "_law_source" s_law_source f fd) (T : Txt K mg g) : FnOk P w K mg base CX0 1 f fd ["script", "index"] (spS K g F_source) := by
  refine fn_body Fn sc_law_source (fun ss R h => ?_) (fun cdv A outer s H E Fr ss R hr h => ?_)
  · obtain ⟨ns, k, rfl, _⟩ := h; rfl
  · obtain ⟨ns, k, rfl, h0, h1, q⟩ := h
    have hN : N_law_source.Nodup := sc_law_source.nd
    have fin : ∀ cell : Int, 0 ≤ cell → SW (cxOf CX0 P w K mg base N_law_source "_law_source" (defScope s_law_source) f cdv A outer s H E).nox g Fr ((defBody s_law_source).drop 2) [.im (.scr ns), .im (.int k), .im (.int cell)] (deOf [.im (.scr ns), .im (.int k)] R) := fun cell hc => by
      have md : ∀ x : Int, 0 ≤ x % 2147483646 ∧ x % 2147483646 < 2147483646 := fun x => ⟨Int.emod_nonneg _ (by decide), Int.emod_lt_of_pos _ (by decide)⟩
      refine sw_cons <| s_if <| tw_cmp <| ew_name 2 rfl <| ew_bin <| ew_int <| ew_int <| ow_powI (by decide) <| ow_ltI ⟨_, rfl, fun h => ?_, fun h => ?_⟩
      · refine sw_cons <| s_ret <| ef_src <| ef_lst <| aw_im <| ew_int <| aw_im <| ew_bin <| ew_int <| ew_bin <| ew_callTy T.int bt_int <| aw_im <| ew_bin <| ew_bin <| ew_name 2 rfl <| ew_int <| ow_mulI (.inr (by decide)) <| ew_bin <| ew_int <| ew_name 1 rfl <| ow_mulI (.inl (by decide)) <| ow_addI <| aw_nil <| cw_int <| ew_int <| ow_modI (by decide) <| ow_addI <| aw_nil ⟨_, rfl, (by show 2 ≤ 10000; decide), fun p => ⟨p, _, _, rfl, ?_, trivial, q p⟩⟩
        have := md (cell * 7919 + 104729 * k)
        unfold SrcOk; omega
      · refine sw_nil <| sw_cons <| s_ret <| ef_src <| ef_lst <| aw_im <| ew_name 2 rfl <| aw_im <| ew_bin <| ew_int <| ew_bin <| ew_callTy T.int bt_int <| aw_im <| ew_bin <| ew_name 2 rfl <| ew_name 1 rfl <| ow_addI <| aw_nil <| cw_int <| ew_int <| ow_modI (by decide) <| ow_addI <| aw_nil ⟨_, rfl, (by show 2 ≤ 10000; decide), fun p => ⟨p, _, _, rfl, ?_, trivial, q p⟩⟩
        have := md (cell + k)
        unfold SrcOk; omega
    refine sw_cons <| s_set 2 hN <| ef_ew <| ew_int ?_
    refine sw_cons <| s_if <| tw_cmp <| ew_name 1 rfl <| ew_callB T.len bt_len <| aw_im <| ew_name 0 rfl <| aw_nil <| cw_lenS <| ow_ltI ⟨_, rfl, fun h => ?_, fun h => ?_⟩
    · have h : k < ns.length := by simpa using h
      have hat : atI ns k = some (ns[k.toNat]'(by omega)) := by
        unfold atI ixN
        rw [if_pos h0, if_pos h]
        show ns[k.toNat]? = _
        rw [List.getElem?_eq_getElem]
      refine sw_cons <| s_set 2 hN <| ef_ew <| ew_callB T.abs bt_abs <| aw_im <| ew_ixS <| ew_name 0 rfl <| ew_name 1 rfl ⟨ns, k, _, rfl, rfl, hat, aw_nil <| cw_abs <| sw_nil ?_⟩
      exact fin _ (by split <;> omega)
    · exact sw_nil <| fin 0 (by decide)
def F_draw : FM := fun ss R => ∃ p n, ss = [.own p .src, .im (.int n)] ∧ 1 ≤ n ∧ n < 1073741824 ∧ ∀ r : Int, 0 ≤ r → r < n → R (.im (.int r))
theorem mono_draw : Mono F_draw := fun ss R R' k ⟨p, n, a, b, c, q⟩ => ⟨p, n, a, b, c, fun r h1 h2 => k _ (q r h1 h2)⟩
theorem ok_draw {f : Addr} {fd : FuncData} (Fn : Fun K "_law_draw" "_law_draw" s_law_draw f fd) (T : Txt K mg g) : FnOk P w K mg base CX0 1 f fd ["source", "size"] (spS K g F_draw) := by
  refine fn_body Fn sc_law_draw (fun ss R h => ?_) (fun cdv A outer s H E Fr ss R hr h => ?_)
  · obtain ⟨p, n, rfl, _⟩ := h; rfl
  · obtain ⟨p, n, rfl, h0, h1, q⟩ := h
    have hN : N_law_draw.Nodup := sc_law_draw.nd
    refine sw_cons <| s_if <| tw_cmp <| ew_src0 0 rfl fun a ha => ew_int <| ow_gtI ⟨_, rfl, fun h => ?_, fun h => ?_⟩
    · refine sw_cons <| s_set 2 hN <| ef_ew <| ew_bin <| ew_callTy T.int bt_int <| aw_im <| ew_src0 0 rfl fun a ha => aw_nil <| cw_int <| ew_name 1 rfl <| ow_modI (by omega) ?_
      refine sw_cons <| s_src (.inl rfl) 0 <| ew_bin <| ew_src0 0 rfl fun b hb => ew_name 1 rfl <| ow_divI ⟨by omega, h1⟩ ⟨_, rfl, Int.ediv_nonneg hb (by omega), fun h => absurd h (by decide), rfl, ?_⟩
      exact sw_cons <| s_ret <| ef_ew <| ew_name 2 rfl ⟨⟨rfl, trivial⟩, q _ (Int.emod_nonneg _ (by omega)) (Int.emod_lt_of_pos _ (by omega))⟩
    · refine sw_nil <| sw_cons <| s_src (.inr rfl) 0 <| ew_bin <| ew_callTy T.int bt_int <| aw_im <| ew_bin <| ew_src1 0 rfl fun a a0 a1 => ew_int <| ow_mulI (.inr (by decide)) <| aw_nil <| cw_int <| ew_int <| ow_modI (by decide) ⟨_, rfl, Int.emod_nonneg _ (by decide), fun _ => ?_, rfl, ?_⟩
      · have := Int.emod_lt_of_pos (a * 48271) (b := 2147483647) (by decide); omega
      · refine sw_cons <| s_ret <| ef_ew <| ew_bin <| ew_callTy T.int bt_int <| aw_im <| ew_bin <| ew_bin <| ew_callTy T.int bt_int <| aw_im <| ew_bin <| ew_src1 0 rfl fun a a0 a1 => ew_src1 0 rfl fun b b0 b1 => ow_mulI (.inl (by omega)) <| aw_nil <| cw_int <| ew_int <| ow_modI (by decide) <| ew_int <| ow_divI (by decide) <| aw_nil <| cw_int <| ew_name 1 rfl <| ow_modI (by omega) ⟨⟨rfl, trivial⟩, q _ (Int.emod_nonneg _ (by omega)) (Int.emod_lt_of_pos _ (by omega))⟩
def F_choice : FM := fun ss R => ∃ p d xs, ss = [.own p .src, .im d] ∧ itemsOf d = some xs ∧ 1 ≤ xs.length ∧ xs.length < 100000 ∧ ∀ x ∈ xs, R (.im x)
theorem mono_choice : Mono F_choice := fun ss R R' k ⟨p, d, xs, a, b, c, e, q⟩ => ⟨p, d, xs, a, b, c, e, fun r h1 => k _ (q r h1)⟩
theorem at_mem {xs : List Dt} {r : Int} (h0 : 0 ≤ r) (h1 : r < xs.length) : ∃ x ∈ xs, atI xs r = some x := by
  refine ⟨xs[r.toNat]'(by omega), List.getElem_mem _, ?_⟩
  unfold atI ixN
  rw [if_pos h0, if_pos h1]
  show xs[r.toNat]? = _
  rw [List.getElem?_eq_getElem]
theorem ok_choice {f : Addr} {fd : FuncData} (Fn : Fun K "_law_choice" "_law_choice" s_law_choice f fd) (T : Txt K mg g) (G : FnD P w K mg base g 1 "_law_draw" F_draw) : FnOk P w K mg base CX0 2 f fd ["source", "items"] (spS K g F_choice) := by
  refine fn_body Fn sc_law_choice (fun ss R h => ?_) (fun cdv A outer s H E Fr ss R hr h => ?_)
  · obtain ⟨p, d, xs, rfl, _⟩ := h; rfl
  · obtain ⟨p, d, xs, rfl, hx, h0, h1, q⟩ := h
    refine sw_cons <| s_ret <| ef_ew <| ew_ix <| ew_name 1 rfl <| ew_call G hr <| aw_own 0 rfl <| aw_im <| ew_callB T.len bt_len <| aw_im <| ew_name 1 rfl <| aw_nil <| cw_len hx <| aw_nil ⟨.src, rfl, by simp [Slot.fp, OD.fp], p, _, rfl, by omega, by omega, fun r r0 r1 => ⟨_, rfl, ?_⟩⟩
    obtain ⟨x, hm, ha⟩ := at_mem r0 r1
    exact ⟨xs, r, x, hx, rfl, ha, ⟨rfl, trivial⟩, q x hm⟩

def F_lpacks : FM := fun ss R => ∃ p most wide, ss = [.own p .src, .im (.int most), .im (.int wide)] ∧ 1 ≤ most ∧ most ≤ 30 ∧ 1 ≤ wide ∧ wide ≤ 30 ∧ ∀ packs : List Pack, packs ≠ [] → packs.length ≤ most → (∀ q ∈ packs, 1 ≤ q.1 ∧ q.1 ≤ wide ∧ 1 ≤ q.2 ∧ q.2 ≤ 100 * q.1) → R (.im (.lst (packs.map pk)))
theorem mono_lpacks : Mono F_lpacks := fun ss R R' k ⟨p, a, b, c, d, e, f, h, q⟩ => ⟨p, a, b, c, d, e, f, h, fun ps h1 h2 h3 => k _ (q ps h1 h2 h3)⟩
theorem ok_lpacks {f : Addr} {fd : FuncData} (Fn : Fun K "_law_packs" "_law_packs" s_law_packs f fd) (T : Txt K mg g) (G1 : FnD P w K mg base g 1 "_law_draw" F_draw) (G2 : FnD P w K mg base g 2 "_law_choice" F_choice) : FnOk P w K mg base CX0 3 f fd ["source", "most", "wide"] (spS K g F_lpacks) := by
  refine fn_body Fn sc_law_packs (fun ss R h => ?_) (fun cdv A outer s H E Fr ss R hr h => ?_)
  · obtain ⟨p, most, wide, rfl, _⟩ := h; rfl
  · obtain ⟨p, most, wide, rfl, m1, m2, w1, w2, q⟩ := h
    have hN : N_law_packs.Nodup := sc_law_packs.nd
    have nd1 : ∀ x : Dt, ([Slot.own p .src, .im x].flatMap Slot.fp).Nodup := fun x => by simp [Slot.fp, OD.fp]
    refine sw_cons <| s_set 3 hN <| ef_lst <| aw_nil ⟨[], rfl, by decide, fun l => ?_⟩
    refine sw_cons <| s_set 4 hN <| ef_call G2 hr <| aw_own 0 rfl <| aw_im <| ew_lst <| aw_im <| ew_int <| aw_im <| ew_int <| aw_im <| ew_int <| aw_nil ⟨_, rfl, by decide, aw_nil ⟨.src, rfl, nd1 _, p, _, [.int 2, .int 10, .int 100], rfl, rfl, by decide, by decide, fun x hx => ?_⟩⟩
    obtain ⟨b, rfl, b1, b2⟩ : ∃ b : Int, x = .int b ∧ 2 ≤ b ∧ b ≤ 100 := by
      simp only [List.mem_cons, List.not_mem_nil, or_false] at hx
      rcases hx with e | e | e <;> exact ⟨_, e, by decide, by decide⟩
    refine sw_cons <| s_for rfl <| iw_r1 T.range <| ew_bin <| ew_int <| ew_call G1 (hr.mono (by decide)) <| aw_own 0 rfl <| aw_im <| ew_name 1 rfl <| aw_nil ⟨.src, rfl, nd1 _, p, most, rfl, m1, by omega, fun r r0 r1 => ⟨_, rfl, ow_addI ⟨1 + r, rfl, by omega, by omega, ?_⟩⟩⟩
    refine ⟨fun i S => ∃ (z z' z'' : Slot) (ps : List Pack), S = [.own p .src, .im (.int most), .im (.int wide), .own l (.lst (ps.map pk)), .im (.int b), z, z', z''] ∧ ps.length = i ∧ ∀ q ∈ ps, 1 ≤ q.1 ∧ q.1 ≤ wide ∧ 1 ≤ q.2 ∧ q.2 ≤ 100 * q.1, ⟨.no, .no, .no, [], rfl, rfl, by simp⟩, fun i x S' hxi hP => ?_, fun S' hP => ?_⟩
    · obtain ⟨z, z', z'', ps, rfl, hl, hps⟩ := hP
      have hi : i < (1 + r).toNat := by have := (List.getElem?_eq_some_iff.mp hxi).1; rwa [rangeD_len] at this
      rw [rangeD_get hi] at hxi
      cases hxi
      refine gw_name 5 hN ?_
      refine sw_cons <| s_set 6 hN <| ef_ew <| ew_bin <| ew_int <| ew_call G1 (hr.mono (by decide)) <| aw_own 0 rfl <| aw_im <| ew_name 2 rfl <| aw_nil ⟨.src, rfl, nd1 _, p, wide, rfl, w1, by omega, fun s s0 s1 => ⟨_, rfl, ow_addI ?_⟩⟩
      have hb : b * (1 + s) ≤ 3000 ∧ 0 ≤ b * (1 + s) ∧ b * (1 + s) ≤ 100 * (1 + s) := by
        have h1 := Int.mul_le_mul b2 (show 1 + s ≤ 30 by omega) (by omega) (by omega)
        have h2 := Int.mul_nonneg (show 0 ≤ b by omega) (show 0 ≤ 1 + s by omega)
        have h3 := Int.mul_le_mul_of_nonneg_right b2 (show 0 ≤ 1 + s by omega)
        omega
      refine sw_cons <| s_set 7 hN <| ef_ew <| ew_callB T.max bt_max <| aw_im <| ew_int <| aw_im <| ew_bin <| ew_bin <| ew_name 4 rfl <| ew_name 6 rfl <| ow_mulI (.inl (by omega)) <| ew_call G1 (hr.mono (by decide)) <| aw_own 0 rfl <| aw_im <| ew_bin <| ew_bin <| ew_bin <| ew_name 4 rfl <| ew_name 6 rfl <| ow_mulI (.inl (by omega)) <| ew_int <| ow_divI (by decide) <| ew_int <| ow_addI <| aw_nil ⟨.src, rfl, nd1 _, p, _, rfl, by omega, by omega, fun t t0 t1 => ⟨_, rfl, ow_subI <| aw_nil <| cw_max2 rfl ?_⟩⟩
      have hnear : ∃ nr : Int, (if b * (1 + s) - t > 1 then b * (1 + s) - t else 1) = nr ∧ 1 ≤ nr ∧ nr ≤ 100 * (1 + s) := ⟨_, rfl, by split <;> omega, by split <;> omega⟩
      obtain ⟨nr, en, n1, n2⟩ := hnear
      rw [en]
      refine sw_cons <| s_app 3 rfl <| ew_tup <| aw_im <| ew_name 6 rfl <| aw_im <| ew_call G2 hr <| aw_own 0 rfl <| aw_im <| ew_lst <| aw_im <| ew_name 7 rfl <| aw_im <| ew_name 7 rfl <| aw_im <| ew_name 7 rfl <| aw_im <| ew_bin <| ew_int <| ew_call G1 (hr.mono (by decide)) <| aw_own 0 rfl <| aw_im <| ew_int <| aw_nil ⟨.src, rfl, nd1 _, p, 40, rfl, by decide, by decide, fun u u0 u1 => ⟨_, rfl, ow_addI <| aw_nil ⟨_, rfl, (by show 4 ≤ 10000; decide), aw_nil ⟨.src, rfl, nd1 _, p, _, [.int nr, .int nr, .int nr, .int (1 + u)], rfl, rfl, (by show 1 ≤ 4; decide), (by show 4 < 100000; decide), fun x hx => ?_⟩⟩⟩⟩
      obtain ⟨c, rfl, c1, c2⟩ : ∃ c : Int, x = .int c ∧ 1 ≤ c ∧ c ≤ 100 * (1 + s) := by
        simp only [List.mem_cons, List.not_mem_nil, or_false] at hx
        rcases hx with e | e | e | e
        · exact ⟨_, e, n1, n2⟩
        · exact ⟨_, e, n1, n2⟩
        · exact ⟨_, e, n1, n2⟩
        · exact ⟨_, e, by omega, by omega⟩
      refine ⟨_, rfl, aw_nil ⟨_, rfl, (by show 2 ≤ 10000; decide), _, rfl, by rw [List.length_map]; omega, sw_nil ⟨.im (.int (0 + (i : Int))), .im (.int (1 + s)), .im (.int nr), ps ++ [(1 + s, c)], ?_, by simp [hl], fun q hq => ?_⟩⟩⟩
      · rw [List.map_append]; rfl
      · rcases List.mem_append.mp hq with h | h
        · exact hps q h
        · rw [List.mem_singleton.mp h]; exact ⟨by show 1 ≤ 1 + s; omega, by show 1 + s ≤ wide; omega, c1, c2⟩
    · obtain ⟨z, z', z'', ps, rfl, hl, hps⟩ := hP
      rw [rangeD_len] at hl
      refine sw_freeze 3 rfl <| sw_cons <| s_ret <| ef_ew <| ew_name 3 rfl ⟨⟨rfl, trivial⟩, q ps (fun e => ?_) (by omega) hps⟩
      subst e; simp at hl; omega
theorem cut_tail (xs : List Dt) : DL.cutD xs (some 1) none = xs.drop 1 := by
  cases xs with
  | nil => rfl
  | cons x r =>
    have h1 : HT.sIx (x :: r).length 0 (some 1) = 1 := by unfold HT.sIx; simp
    have h2 : HT.sIx (x :: r).length (x :: r).length none = (x :: r).length := rfl
    unfold DL.cutD
    rw [h1, h2]
    exact List.take_of_length_le (by simp)
def F_lshop : FM := fun ss R => ∃ packs : List Pack, ss = [.im (.lst (packs.map pk))] ∧ packs ≠ [] ∧ (∀ q ∈ packs, OkPack q) ∧ packs.length ≤ 1000 ∧ R (.im (.shop (neededOf packs)))
theorem mono_lshop : Mono F_lshop := fun ss R R' k ⟨p, a, b, c, d, q⟩ => ⟨p, a, b, c, d, k _ q⟩
theorem ok_lshop {f : Addr} {fd : FuncData} (Fn : Fun K "_law_shop" "_law_shop" s_law_shop f fd) (T : Txt K mg g) (M : MkS P w K mg base g 3) (G : BinD P w K mg base g 5 "__or__" F_or) : FnOk P w K mg base CX0 6 f fd ["packs"] (spS K g F_lshop) := by
  refine fn_body Fn sc_law_shop (fun ss R h => ?_) (fun cdv A outer s H E Fr ss R hr h => ?_)
  · obtain ⟨packs, rfl, _⟩ := h; rfl
  · obtain ⟨packs, rfl, hne, hok, hl, q⟩ := h
    have hN : N_law_shop.Nodup := sc_law_shop.nd
    cases packs with
    | nil => exact absurd rfl hne
    | cons p0 r =>
      have h0 := hok p0 List.mem_cons_self
      have one : ∀ a : Pack, OkPack a → Pks [a] := fun a h => OkPack.pks (by simp) fun x hx => by rw [List.mem_singleton.mp hx]; exact h
      have at0 : atI ((p0 :: r).map pk) 0 = some (pk p0) := by unfold atI ixN; simp
      refine sw_cons <| s_set 1 hN <| ef_ew <| ew_make M (hr.mono (by decide)) <| aw_im <| ew_ix <| ew_name 0 rfl <| ew_int ⟨_, 0, _, rfl, rfl, at0, aw_nil ⟨[p0], rfl, by simp, fun x hx => by rw [List.mem_singleton.mp hx]; exact h0, by simp, ?_⟩⟩
      refine sw_cons <| s_for rfl <| iw_l <| ew_slL <| ew_name 0 rfl <| ew_int ⟨_, rfl, _, rfl, _, rfl, ?_⟩
      rw [cut_tail, List.map_cons, List.drop_one, List.tail_cons]
      refine ⟨fun i S => ∃ z, S = [.im (.lst ((p0 :: r).map pk)), .im (.shop (neededOf (p0 :: r.take i))), z], ⟨_, rfl⟩, fun i x S' hxi hP => ?_, fun S' hP => ?_⟩
      · obtain ⟨z, rfl⟩ := hP
        obtain ⟨a, ha, rfl⟩ := get_map hxi
        have oka := hok a (List.mem_cons_of_mem _ (List.mem_of_getElem? ha))
        have hti : ∀ x ∈ p0 :: r.take i, OkPack x := fun x hx => hok x (by
          rcases List.mem_cons.mp hx with e | e
          · rw [e]; exact List.mem_cons_self
          · exact List.mem_cons_of_mem _ (List.mem_of_mem_take e))
        refine gw_name 2 hN ?_
        refine sw_cons <| s_set 1 hN <| ef_ew <| ew_bin <| ew_name 1 rfl <| ew_make M (hr.mono (by decide)) <| aw_im <| ew_name 2 rfl <| aw_nil ⟨[a], rfl, by simp, fun x hx => by rw [List.mem_singleton.mp hx]; exact oka, by simp, ow_bin G hr ⟨_, _, rfl, .of (by simp) hti, .of (by simp) (fun x hx => by rw [List.mem_singleton.mp hx]; exact oka), _, rfl, sw_nil ⟨.im (pk a), ?_⟩⟩⟩
        rw [needed_app (OkPack.pks (by simp) hti) (one a oka), take_snoc ha]; rfl
      · obtain ⟨z, rfl⟩ := hP
        rw [List.length_map, List.take_length]
        exact sw_cons <| s_ret <| ef_ew <| ew_name 1 rfl ⟨trivial, q⟩

/-! ### for laws -/
theorem nd_src {p : Addr} : ∀ l : List Dt, ((Slot.own p .src :: l.map Slot.im).flatMap Slot.fp).Nodup := fun l => by
  have : (l.map Slot.im).flatMap Slot.fp = [] := by
    induction l with
    | nil => rfl
    | cons a r ih => rw [List.map_cons, List.flatMap_cons, ih]; rfl
  rw [List.flatMap_cons, this]; simp [Slot.fp, OD.fp]
theorem nd1 {p : Addr} (d : Dt) : ([Slot.own p .src, .im d].flatMap Slot.fp).Nodup := nd_src [d]
theorem nd2 {p : Addr} (d e : Dt) : ([Slot.own p .src, .im d, .im e].flatMap Slot.fp).Nodup := nd_src [d, e]
theorem ne_k {k : Bool} {p : Prop} [Decidable p] (h : k = false ↔ p) (hp : p) : k = false := h.mpr hp
theorem at_nat {ps : List Pack} {i : Nat} {p : Pack} (h : ps[i]? = some p) : p ∈ ps := List.mem_of_getElem? h
theorem okp_of {packs : List Pack} {wide : Int} (hw : wide ≤ 30) (h : ∀ q ∈ packs, 1 ≤ q.1 ∧ q.1 ≤ wide ∧ 1 ≤ q.2 ∧ q.2 ≤ 100 * q.1) : ∀ q ∈ packs, OkPack q := fun q hq => by
  obtain ⟨h1, h2, h3, h4⟩ := h q hq
  unfold OkPack; omega
def oks (l : List Pack) : Bool := l.all fun q => decide (1 ≤ q.1) && decide (q.1 ≤ 30) && decide (1 ≤ q.2) && decide (q.2 ≤ 1000000)
theorem oks_ok {l : List Pack} (h : oks l = true) : ∀ q ∈ l, OkPack q := fun q hq => by
  have := List.all_eq_true.mp h q hq
  simp only [Bool.and_eq_true, decide_eq_true_eq] at this
  exact ⟨this.1.1.1, this.1.1.2, this.1.2, this.2⟩
theorem shop_lit {l : List Pack} (h : oks l = true) (hn : l ≠ []) (e : neededOf l = l) : OkShop l := ⟨l, hn, oks_ok h, e.symm⟩
theorem at_tab {ps : List Pack} {m : Nat} {k : Int} (h0 : 0 ≤ k) (hk : k ≤ m) : atI ((tab ps m).map Dt.int) k = some (.int (pr ps k.toNat)) := by
  rw [at_getD h0 (by rw [tab_len]; omega), tab_getD _ _ _ (by omega)]
theorem needed_one {a : Pack} : neededOf [a] = [a] := by simp [neededOf, srt, insP, dropStep]
/-- the turns of the law's cells -/
theorem cell_int {n : Nat} {m : Nat} {x : Dt} {i : Nat} (h : (rangeD 0 n)[i]? = some x) (hn : n ≤ m) : x = .int (0 + (i : Int)) ∧ i < m := by
  obtain ⟨hi, hx⟩ := List.getElem?_eq_some_iff.mp h
  rw [rangeD_len] at hi
  refine ⟨?_, by omega⟩
  rw [← hx]; unfold rangeD; simp

/-! ### largest_for, most_pieces, most_for, rate_pack, steady_from -/
def F_largest_for : FM := fun ss R => ∃ ps t, ss = [.im (.shop ps), .im (.int t)] ∧ OkShop ps ∧ 0 ≤ t ∧ ∀ r : Nat, pr ps r ≤ t → t < pr ps (r + 1) → R (.im (.int r))
theorem mono_largest_for : Mono F_largest_for := fun ss R R' k ⟨ps, t, a, b, c, q⟩ => ⟨ps, t, a, b, c, fun r h1 h2 => k _ (q r h1 h2)⟩
theorem high_pr {ps : List Pack} (ok : OkShop ps) {t : Int} (h0 : 0 ≤ t) : 0 ≤ t * (bestOf ps).1 / (bestOf ps).2 ∧ t < pr ps (t * (bestOf ps).1 / (bestOf ps).2 + 1).toNat := by
  obtain ⟨b1, b2, b3, b4⟩ := ok.ok _ (bestOf_mem ok.ne)
  have n0 : 0 ≤ t * (bestOf ps).1 / (bestOf ps).2 := Int.ediv_nonneg (Int.mul_nonneg h0 (by omega)) (by omega)
  refine ⟨n0, ?_⟩
  have rt := pr_rate ok.pks (bestOf_best ok.pks) (t * (bestOf ps).1 / (bestOf ps).2 + 1).toNat
  have d1 := Int.mul_ediv_add_emod (t * (bestOf ps).1) (bestOf ps).2
  have d3 := Int.emod_lt_of_pos (t * (bestOf ps).1) (b := (bestOf ps).2) (by omega)
  generalize t * (bestOf ps).1 / (bestOf ps).2 = z at n0 rt d1 ⊢
  have e : (((z + 1).toNat : Nat) : Int) = z + 1 := by omega
  rw [e, Int.add_mul, Int.one_mul] at rt
  have e2 : (bestOf ps).2 * z = z * (bestOf ps).2 := Int.mul_comm _ _
  have h3 : t * (bestOf ps).1 < pr ps (z + 1).toNat * (bestOf ps).1 := by omega
  exact Int.lt_of_mul_lt_mul_right h3 (by omega)
theorem ok_largest_for {f : Addr} {fd : FuncData} (Fn : Fun K "largest_for" "largest_for" s_largest_for f fd) (T : Txt K mg g) (G2 : MtD P w K mg base g 1 g.shop "price" F_price) : FnOk P w K mg base CX0 2 f fd ["shop", "total"] (spS K g F_largest_for) := by
  refine fn_body Fn sc_largest_for (fun ss R h => ?_) (fun cdv A outer s H E Fr ss R hr h => ?_)
  · obtain ⟨ps, t, rfl, _⟩ := h; rfl
  · obtain ⟨ps, t, rfl, ok, h0, q⟩ := h
    have hN : N_largest_for.Nodup := sc_largest_for.nd
    have C := T.shC
    obtain ⟨b1, b2, b3, b4⟩ := ok.ok _ (bestOf_mem ok.ne)
    obtain ⟨z0, z1⟩ := high_pr ok h0
    refine sw_cons <| s_setT <| ew_fldB C <| ew_name 0 rfl ⟨ps, rfl, gw_tup rfl <| gsw_cons <| gw_name 2 hN <| gsw_cons <| gw_name 3 hN <| gsw_nil ?_⟩
    refine sw_cons <| s_par 4 5 rfl hN <| aw_im <| ew_int <| aw_im <| ew_bin <| ew_bin <| ew_bin <| ew_name 1 rfl <| ew_name 2 rfl <| ow_mulI (by omega) <| ew_name 3 rfl <| ow_divI (by omega) <| ew_int <| ow_addI <| aw_nil ⟨_, _, rfl, ?_⟩
    refine sw_cons <| s_while (fun m S => ∃ lo hi z, S = [.im (.shop ps), .im (.int t), .im (.int (bestOf ps).1), .im (.int (bestOf ps).2), .im (.int lo), .im (.int hi), z] ∧ 0 ≤ lo ∧ lo < hi ∧ pr ps lo.toNat ≤ t ∧ t < pr ps hi.toNat ∧ m = (hi - lo).toNat)
      ⟨_, 0, _, _, rfl, by omega, by omega, h0, z1, rfl⟩ fun m S hS => ?_
    obtain ⟨lo, hi, z, rfl, l0, lh, pl, ph, rfl⟩ := hS
    refine tw_cmp <| ew_bin <| ew_name 5 rfl <| ew_name 4 rfl <| ow_subI <| ew_int <| ow_gtI ⟨_, rfl, fun h => ?_, fun h => ?_⟩
    · have h : 1 < hi - lo := by simpa using h
      refine sw_cons <| s_set 6 hN <| ef_ew <| ew_bin <| ew_bin <| ew_name 4 rfl <| ew_name 5 rfl <| ow_addI <| ew_int <| ow_divI (by omega) ?_
      have m1 : lo < (lo + hi) / 2 ∧ (lo + hi) / 2 < hi := by omega
      generalize (lo + hi) / 2 = mid at m1 ⊢
      refine sw_cons <| s_if <| tw_cmp <| ew_ef <| ef_meth C G2 hr <| ew_name 0 rfl ⟨ps, rfl, aw_im <| ew_name 6 rfl <| aw_nil ⟨List.nodup_nil, ps, mid, rfl, ok, by omega, _, rfl, ?_⟩⟩
      refine ew_name 1 rfl <| ow_leI ⟨_, rfl, fun h2 => ?_, fun h2 => ?_⟩
      · exact sw_cons <| s_set 4 hN <| ef_ew <| ew_name 6 rfl <| sw_nil <| sw_nil ⟨_, by omega, mid, hi, _, rfl, by omega, by omega, by simpa using h2, ph, rfl⟩
      · exact sw_cons <| s_set 5 hN <| ef_ew <| ew_name 6 rfl <| sw_nil <| sw_nil ⟨_, by omega, lo, mid, _, rfl, by omega, by omega, pl, by simpa using h2, rfl⟩
    · have h : ¬ 1 < hi - lo := by simpa using h
      have e : hi.toNat = lo.toNat + 1 := by omega
      rw [e] at ph
      have q := q lo.toNat pl ph
      rw [show ((lo.toNat : Nat) : Int) = lo by omega] at q
      exact sw_cons <| s_ret <| ef_ew <| ew_name 4 rfl ⟨trivial, q⟩
def F_most_pieces : FM := fun ss R => ∃ ps n, ss = [.im (.shop ps), .im (.int n)] ∧ OkShop ps ∧ 0 ≤ n ∧ n ≤ 1000000000000 ∧ ∀ r : Nat, pr ps r ≤ pr ps n.toNat → pr ps n.toNat < pr ps (r + 1) → R (.im (.int r))
theorem mono_most_pieces : Mono F_most_pieces := fun ss R R' k ⟨ps, t, a, b, c, d, q⟩ => ⟨ps, t, a, b, c, d, fun r h1 h2 => k _ (q r h1 h2)⟩
theorem ok_most_pieces {f : Addr} {fd : FuncData} (Fn : Fun K "most_pieces" "most_pieces" s_most_pieces f fd) (T : Txt K mg g) (G1 : FnD P w K mg base g 1 "need_shop" F_need_shop) (G2 : FnD P w K mg base g 2 "need_number" F_need_number) (G3 : MtD P w K mg base g 1 g.shop "price" F_price) (G4 : FnD P w K mg base g 2 "largest_for" F_largest_for) : FnOk P w K mg base CX0 3 f fd ["shop", "number"] (spS K g F_most_pieces) := by
  refine fn_body Fn sc_most_pieces (fun ss R h => ?_) (fun cdv A outer s H E Fr ss R hr h => ?_)
  · obtain ⟨ps, t, rfl, _⟩ := h; rfl
  · obtain ⟨ps, n, rfl, ok, h0, h1, q⟩ := h
    obtain ⟨tn, eN⟩ := T.mNumber
    refine sw_cons <| s_expr <| ew_call G1 (hr.mono (by decide)) <| aw_im <| ew_name 0 rfl <| aw_nil ⟨List.nodup_nil, ps, rfl, _, rfl, ?_⟩
    refine sw_cons <| s_expr <| ew_call G2 hr <| aw_im <| ew_name 1 rfl <| aw_im <| ew_int <| aw_im <| ew_globI eN <| aw_nil ⟨List.nodup_nil, n, 0, _, rfl, h0, h1, _, rfl, ?_⟩
    refine sw_cons <| s_ret <| ef_call G4 hr <| aw_im <| ew_name 0 rfl <| aw_im <| ew_ef <| ef_meth T.shC G3 (hr.mono (by decide)) <| ew_name 0 rfl ⟨ps, rfl, aw_im <| ew_name 1 rfl <| aw_nil ⟨List.nodup_nil, ps, n, rfl, ok, h0, _, rfl, ?_⟩⟩
    exact aw_nil ⟨List.nodup_nil, ps, _, rfl, ok, pr_nonneg ok.pks _, fun r h2 h3 => ⟨trivial, q r h2 h3⟩⟩
/-! ### helped_by, first_dearer, never_dearer -/
def optD : Option Nat → Dt
  | none => .non
  | some n => .int n
theorem hb_D {ps : List Pack} (h : Pks ps) {a : Pack} {r : Nat} (m : MostFor ps a.2 r) : (if ((r : Int) + 1 ≤ a.1) then Dt.int ((r : Int) + 1) else .non) = optD (hb ps a) := by
  unfold hb
  rw [mf_eq h m]
  split
  · show _ = Dt.int ((r + 1 : Nat) : Int); congr 1
  · rfl
theorem int_opt (o : Option Nat) : EqOk (optD o) := by cases o; exact .non; exact .int
theorem eqInts (l : List Int) : EqOk (.lst (l.map Dt.int)) := ⟨by simp only [noBool]; exact noBoolL_map (fun _ => rfl) l, by
  have := depL_map (f := Dt.int) (n := 0) (fun _ => Nat.le_refl 0) l
  simp only [depD]; omega⟩
theorem isNon_opt (r : Option Nat) : isNon (optD r) = r.isNone := by cases r <;> rfl
/-! ### the law's prices and needed packs -/
/-! ### in, len -/
def F_contains : FM := fun ss R => ∃ ps a, ss = [.im (.shop ps), .im (pk a)] ∧ OkPack a ∧ ∀ k : Bool, (k = true ↔ a ∈ ps) → R (.im (.bl k))
theorem mono_contains : Mono F_contains := fun ss R R' k ⟨ps, a, b, c, q⟩ => ⟨ps, a, b, c, fun k' h => k _ (q k' h)⟩
theorem mem_pk {a : Pack} {ps : List Pack} : pk a ∈ ps.map pk ↔ a ∈ ps := by
  rw [List.mem_map]
  constructor
  · rintro ⟨b, hb, e⟩; rw [← pk_inj.mp e]; exact hb
  · intro h; exact ⟨a, h, rfl⟩
theorem ok_contains {f : Addr} {fd : FuncData} (Fn : Fun K "__contains__" "PriceList.__contains__" s_PriceList_contains f fd) (T : Txt K mg g) (G1 : FnD P w K mg base g 2 "is_pack" F_is_pack) : FnOk P w K mg base CX0 3 f fd ["self", "value"] (spS K g F_contains) := by
  refine fn_body Fn sc_PriceList_contains (fun ss R h => ?_) (fun cdv A outer s H E Fr ss R hr h => ?_)
  · obtain ⟨ps, a, rfl, _⟩ := h; rfl
  · obtain ⟨ps, a, rfl, ha, q⟩ := h
    refine sw_cons <| s_ret <| ef_ew <| ew_and <| ew_call G1 hr <| aw_im <| ew_name 1 rfl <| aw_nil ⟨List.nodup_nil, pk a, "tuple", rfl, rfl, fun x hx => ?_, _, rfl, _, rfl, fun _ => ?_, fun h => ?_⟩
    · simp only [List.mem_cons, List.not_mem_nil, or_false] at hx
      rcases hx with e | e <;> subst e <;> exact ⟨"int", rfl⟩
    · refine ew_one <| ew_cmp <| ew_name 1 rfl <| ew_fldN T.shC <| ew_name 0 rfl ⟨ps, rfl, ow_inT (hu65 hr) (.pk a) (.tupP ps) fun k hk => ⟨trivial, q k ?_⟩⟩
      rw [hk, mem_pk]
    · rw [isPk_pk a ha] at h; cases h
def F_len : FM := fun ss R => ∃ ps, ss = [.im (.shop ps)] ∧ R (.im (.int ps.length))
theorem mono_len : Mono F_len := fun ss R R' k ⟨ps, a, q⟩ => ⟨ps, a, k _ q⟩
theorem ok_len {f : Addr} {fd : FuncData} (Fn : Fun K "__len__" "PriceList.__len__" s_PriceList_len f fd) (T : Txt K mg g) : FnOk P w K mg base CX0 1 f fd ["self"] (spS K g F_len) := by
  refine fn_body Fn sc_PriceList_len (fun ss R h => ?_) (fun cdv A outer s H E Fr ss R hr h => ?_)
  · obtain ⟨ps, rfl, _⟩ := h; rfl
  · obtain ⟨ps, rfl, q⟩ := h
    refine sw_cons <| s_ret <| ef_ew <| ew_callB T.len bt_len <| aw_im <| ew_fldN T.shC <| ew_name 0 rfl ⟨ps, rfl, aw_nil <| cw_len rfl ⟨trivial, ?_⟩⟩
    rw [List.length_map]; exact q
/-! ### first_unlike, first_mixed -/
/-! ### lowest, rate -/
/-! ### str, other comparisons -/
def strP (p : Pack) : Str := Str.ofString (toString p.1) ++ (":" : Str) ++ Str.ofString (toString p.2)
def strShop (ps : List Pack) : Str := Txt.join (", " : Str) (ps.map strP)
theorem log_few {i : Int} (h : i.natAbs < 2 ^ 20) : i.natAbs.log2 < 1920 := by
  by_cases z : i.natAbs = 0
  · rw [z]; decide
  · exact (Nat.log2_lt z).mpr (Nat.lt_of_lt_of_le h (Nat.pow_le_pow_right (by decide) (by decide)))
theorem str_len {i : Int} {k : Nat} (hk : 0 < k) (h : i.natAbs < 10 ^ k) : (Str.ofString (toString i)).length ≤ k + 1 := by rw [PySem.ofString_length]; exact PySem.int_text_length_le10 hk h
theorem strP_len {p : Pack} (h : OkPack p) : (strP p).length ≤ 12 ∧ (Str.ofString (toString p.1)).length ≤ 3 ∧ (Str.ofString (toString p.2)).length ≤ 8 := by
  obtain ⟨a, b, c, d⟩ := h
  have h1 := str_len (i := p.1) (k := 2) (by decide) (by omega)
  have h2 := str_len (i := p.2) (k := 7) (by decide) (by omega)
  refine ⟨?_, h1, h2⟩
  unfold strP
  rw [PySem.Str.length_append, PySem.Str.length_append]
  have : (":" : Str).length = 1 := by decide +kernel
  omega
theorem strs_few {ps : List Pack} (h : ∀ p ∈ ps, OkPack p) : ((ps.map strP).map (·.length)).sum ≤ 12 * ps.length := by
  induction ps with
  | nil => simp
  | cons p r ih =>
    have a := (strP_len (h p List.mem_cons_self)).1
    have b := ih fun q hq => h q (List.mem_cons_of_mem _ hq)
    simp only [List.map_cons, List.sum_cons, List.length_cons]
    omega
def F_str : FM := fun ss R => ∃ ps, ss = [.im (.shop ps)] ∧ OkShop ps ∧ R (.im (.str (strShop ps)))
theorem mono_str : Mono F_str := fun ss R R' k ⟨a, b, c, q⟩ => ⟨a, b, c, k _ q⟩
theorem ok_str {f : Addr} {fd : FuncData} (Fn : Fun K "__str__" "PriceList.__str__" s_PriceList_str f fd) (T : Txt K mg g) (hS : mg "str" = none) : FnOk P w K mg base CX0 1 f fd ["self"] (spS K g F_str) := by
  refine fn_body Fn sc_PriceList_str (fun ss R h => ?_) (fun cdv A outer s H E Fr ss R hr h => ?_)
  · obtain ⟨ps, rfl, _⟩ := h; rfl
  · obtain ⟨ps, rfl, ok, q⟩ := h
    have hN : N_PriceList_str.Nodup := sc_PriceList_str.nd
    have few := ok.few
    refine sw_cons <| s_ret <| ef_ew <| ew_join <| ew_str ⟨_, rfl, ew_lc [("size", 1), ("price", 2)] rfl hN (blkOk_by (N := N_PriceList_str) (sc := defScope s_PriceList_str) (by decide +kernel)) <| iw_t <| ew_fldN T.shC <| ew_name 0 rfl ⟨ps, rfl, _, rfl, rfl, ?_⟩⟩
    refine lc_map (enc := pk) (f := fun p => Dt.str (strP p)) ps (by omega) (fun Fr' jj a ha s H' C' cl fp => ?_) ?_
    · have oa := ok.ok a (List.mem_of_getElem? ha)
      obtain ⟨l1, l2, l3⟩ := strP_len oa
      obtain ⟨a1, a2, a3, a4⟩ := oa
      have lc : (":" : Str).length = 1 := by decide +kernel
      refine gv_tup rfl <| gvs_cons <| gv_name 1 hN <| gvs_cons <| gv_name 2 hN <| gvs_nil fun s H' C' cl fp => ?_
      exact ew_bin <| ew_bin <| ew_callTy hS bt_str <| aw_im <| ew_name 1 rfl <| aw_nil <| cw_strI (log_few (by omega)) <| ew_str <| ow_addS (by rw [PySem.sizeLine_eq]; omega) <| ew_callTy hS bt_str <| aw_im <| ew_name 2 rfl <| aw_nil <| cw_strI (log_few (by omega)) <| ow_addS (by rw [PySem.Str.length_append, PySem.sizeLine_eq]; omega) ⟨rfl, rfl⟩
    · refine ⟨ps.map strP, by rw [List.map_map]; rfl, ?_, trivial, q⟩
      have := strs_few ok.ok
      have lc : (", " : Str).length = 2 := by decide +kernel
      rw [lc, List.length_map]
      omega
def F_eqX : FM := fun ss R => ∃ ps d, ss = [.im (.shop ps), .im d] ∧ ((∃ qs, d = .shop qs ∧ R (.im (.bl (decide (ps = qs))))) ∨ ∃ xs, d = .tup xs ∧ R (.im (.bl false)))
theorem mono_eqX : Mono F_eqX := fun ss R R' k ⟨ps, d, a, q⟩ => ⟨ps, d, a, q.imp (fun ⟨x, y, z⟩ => ⟨x, y, k _ z⟩) fun ⟨x, y, z⟩ => ⟨x, y, k _ z⟩⟩
theorem ok_eqX {f : Addr} {fd : FuncData} (Fn : Fun K "__eq__" "PriceList.__eq__" s_PriceList_eq f fd) (T : Txt K mg g) (kT : PySem.W.kitOne K (.type "tuple") (.ref g.shop) = some false) : FnOk P w K mg base CX0 1 f fd ["self", "other"] (spS K g F_eqX) := by
  refine fn_body Fn sc_PriceList_eq (fun ss R h => ?_) (fun cdv A outer s H E Fr ss R hr h => ?_)
  · obtain ⟨ps, d, rfl, _⟩ := h; rfl
  · obtain ⟨ps, d, rfl, q⟩ := h
    have C := T.shC
    rcases q with ⟨qs, rfl, q⟩ | ⟨xs, rfl, q⟩
    · refine sw_cons <| s_if <| tw_not <| tw_val <| ew_callB T.isinstance bt_isinstance <| aw_im <| ew_name 1 rfl <| aw_im <| ew_cls T.pl <| aw_nil <| cw_isShop C.isi T.kS ⟨_, rfl, nofun, fun _ => sw_nil ?_⟩
      refine sw_cons <| s_ret <| ef_ew <| ew_cmp <| ew_fldN C <| ew_name 0 rfl ⟨ps, rfl, ew_fldN C <| ew_name 1 rfl ⟨qs, rfl, ow_eqD hr.units (.tupP _) (.tupP _) fun k hk => ⟨trivial, ?_⟩⟩⟩
      have : k = decide (ps = qs) := by
        rw [Dt.tup.injEq, map_pk_inj] at hk
        cases k with
        | true => exact (decide_eq_true (hk.mp rfl)).symm
        | false => exact (decide_eq_false fun e => by have := hk.mpr e; cases this).symm
      rw [this]; exact q
    · refine sw_cons <| s_if <| tw_not <| tw_val <| ew_callB T.isinstance bt_isinstance <| aw_im <| ew_name 1 rfl <| aw_im <| ew_cls T.pl <| aw_nil <| cw_isC C.isi (by simp [tyD]) kT ⟨_, rfl, fun _ => ?_, nofun⟩
      exact sw_cons <| s_ret <| ef_ew <| ew_bl ⟨trivial, q⟩
theorem btw_int {x : Dt} {lo hi : Int} (h : isBtw x lo hi = true) : ∃ i, x = .int i ∧ lo ≤ i ∧ i ≤ hi := by
  cases x with
  | int i =>
    simp only [isBtw, Bool.and_eq_true, decide_eq_true_eq] at h
    exact ⟨i, rfl, h⟩
  | _ => simp [isBtw] at h
theorem isPk_eq {d : Dt} (h : isPk d = true) : ∃ a : Pack, d = pk a ∧ OkPack a := by
  cases d with
  | tup xs =>
    match xs, h with
    | [], h => simp [isPk] at h
    | [_], h => simp [isPk] at h
    | [a, b], h =>
      simp only [isPk, Bool.and_eq_true] at h
      obtain ⟨i, rfl, i1, i2⟩ := btw_int h.1
      obtain ⟨j, rfl, j1, j2⟩ := btw_int h.2
      exact ⟨(i, j), rfl, i1, i2, j1, j2⟩
    | _ :: _ :: _ :: _, h => simp [isPk] at h
  | _ => simp [isPk] at h
def F_containsX : FM := fun ss R => ∃ ps d m, ss = [.im (.shop ps), .im d] ∧ kindD d = some m ∧ kindsD d ∧ ∀ k : Bool, (k = true ↔ ∃ a ∈ ps, OkPack a ∧ d = pk a) → R (.im (.bl k))
theorem mono_containsX : Mono F_containsX := fun ss R R' k ⟨ps, d, m, a, b, c, q⟩ => ⟨ps, d, m, a, b, c, fun k' h => k _ (q k' h)⟩
theorem ok_containsX {f : Addr} {fd : FuncData} (Fn : Fun K "__contains__" "PriceList.__contains__" s_PriceList_contains f fd) (T : Txt K mg g) (G1 : FnD P w K mg base g 2 "is_pack" F_is_pack) : FnOk P w K mg base CX0 3 f fd ["self", "value"] (spS K g F_containsX) := by
  refine fn_body Fn sc_PriceList_contains (fun ss R h => ?_) (fun cdv A outer s H E Fr ss R hr h => ?_)
  · obtain ⟨ps, d, m, rfl, _⟩ := h; rfl
  · obtain ⟨ps, d, m, rfl, hd, hk, q⟩ := h
    refine sw_cons <| s_ret <| ef_ew <| ew_and <| ew_call G1 hr <| aw_im <| ew_name 1 rfl <| aw_nil ⟨List.nodup_nil, d, m, rfl, hd, hk, _, rfl, _, rfl, fun h => ?_, fun h => ?_⟩
    · obtain ⟨a, rfl, oa⟩ := isPk_eq h
      refine ew_one <| ew_cmp <| ew_name 1 rfl <| ew_fldN T.shC <| ew_name 0 rfl ⟨ps, rfl, ow_inT (hu65 hr) (.pk a) (.tupP ps) fun k hk => ⟨trivial, q k ?_⟩⟩
      rw [hk, mem_pk]
      exact ⟨fun h => ⟨a, h, oa, rfl⟩, fun ⟨b, hb, _, e⟩ => by rw [pk_inj.mp e]; exact hb⟩
    · refine ⟨trivial, q false ⟨nofun, fun ⟨a, _, oa, e⟩ => ?_⟩⟩
      subst e
      rw [isPk_pk a oa] at h; cases h

/-! ### carts -/
def stt (ps : List Pack) (w : Int) : Dt := .tup [.shop ps, .int w]
/-- what the top has written of carts -/
structure TxtC (K : PySem.W.Frag) (mg : Str → Option Value) (g : Cl) : Prop where
  carC : CarC K g
  crt : mg "Cart" = some (.ref g.cart)
  mWished : ∃ t, mg "MOST_WISHED" = some (.int 1000000 t)
theorem repL_of {H0 : Hp} : ∀ {vs : List V} {ds : List Dt}, vs.length = ds.length → (∀ (i : Nat) (d : Dt), ds[i]? = some d → ∃ v, vs[i]? = some v ∧ Rep K g H0 v d) → RepL K g H0 vs ds
  | [], [], _, _ => .nil
  | [], _ :: _, h, _ => by simp at h
  | _ :: _, [], h, _ => by simp at h
  | v :: vs, d :: ds, h, k => by
    obtain ⟨v', e, r⟩ := k 0 d rfl
    simp at e
    subst e
    exact .cons r (repL_of (by simpa using h) fun i d hd => by simpa using k (i + 1) d (by simpa using hd))
theorem ok_cinit {f : Addr} {fd : FuncData} (Fn : Fun K "__init__" "Cart.__init__" s_Cart_init f fd) (TC : TxtC K mg g) (G1 : FnD P w K mg base g 1 "need_shop" F_need_shop) : FnOk P w K mg base CX0 2 f fd ["self", "shop"] (spCI K g) := by
  refine Fn.ok sc_Cart_init (fun vs H Q E h => ?_) (fun cdv A outer s H vs Q E hr h => ?_)
  · obtain ⟨Fr, H0, p, dx, ps, s0, _⟩ := h
    simpa using s0.len
  · obtain ⟨Fr, H0, p, dx, ps, s0, q⟩ := h
    have hvl : vs.length = 2 := by simpa using s0.len
    refine ⟨_, pss_sem, ?_⟩
    have e1 : L2.start N_Cart_init vs = vs.map some := by
      unfold L2.start
      rw [hvl]
      exact List.append_nil _
    rw [e1]
    have body : SW (cxOf CX0 P w K mg base N_Cart_init "Cart.__init__" (defScope s_Cart_init) f cdv A outer s H E).nox g Fr (defBody s_Cart_init) (.own p (.obj g.cart dx []) :: [Dt.shop ps].map Slot.im) { nx := fun S => ∃ l, S[0]? = some (.own p (.cart dx l [stt ps 0])), rt := fun _ _ => False } := by
      refine sw_cons <| s_expr <| ew_call G1 hr <| aw_im <| ew_name 1 rfl <| aw_nil ⟨List.nodup_nil, ps, rfl, _, rfl, ?_⟩
      exact sw_cons <| s_mkC 0 TC.carC <| ef_lst <| aw_im <| ew_tup <| aw_im <| ew_name 1 rfl <| aw_im <| ew_int <| aw_nil ⟨_, rfl, (by show 2 ≤ 10000; decide), aw_nil ⟨_, rfl, (by show 1 ≤ 10000; decide), fun l => ⟨l, _, rfl, rfl, sw_nil ⟨l, rfl⟩⟩⟩⟩
    refine semSs_mono (body _ _ _ s0) ⟨fun σ' H' ⟨S', H0', e, st', l, hl⟩ => ?_, fun v H' ⟨r, S', σ', H0', e, st', q⟩ => q.elim, fun _ _ ⟨_, _, _, _, q⟩ => q.elim, fun _ _ ⟨_, _, _, _, q⟩ => q.elim⟩
    exact q l .non H0' H' rfl e (back_ofC s0 e st' hl .non)
def F_total : CF := fun cs ds R => ∃ ps w, ds = [] ∧ cs.getLast? = some (stt ps w) ∧ OkShop ps ∧ 0 ≤ w ∧ R (.int (pr ps w.toNat)) cs
theorem mono_total : MonoC F_total := fun st ds R R' k ⟨ps, w, a, b, c, d, q⟩ => ⟨ps, w, a, b, c, d, k _ _ q⟩
theorem ok_total {f : Addr} {fd : FuncData} (Fn : Fun K "total" "Cart.total" s_Cart_total f fd) (T : Txt K mg g) (TC : TxtC K mg g) (G1 : MtD P w K mg base g 1 g.shop "price" F_price) : FnOk P w K mg base CX0 2 f fd ["self"] (spC K g F_total) := by
  refine fn_bodyC Fn sc_Cart_total (fun cs ds R h => ?_) (fun cdv A outer s H E Fr p dx l cs ds R hr h => ?_)
  · obtain ⟨ps, w, rfl, _⟩ := h; rfl
  · obtain ⟨ps, w, rfl, hl, ok, h0, q⟩ := h
    have hN : N_Cart_total.Nodup := sc_Cart_total.nd
    refine sw_cons <| s_setT <| ew_ixC 0 TC.carC rfl <| ew_minus <| ew_int ⟨1, rfl, cs, -1, _, rfl, rfl, at_last hl, gw_tup rfl <| gsw_cons <| gw_name 1 hN <| gsw_cons <| gw_name 2 hN <| gsw_nil ?_⟩
    exact sw_cons <| s_ret <| ef_meth T.shC G1 hr <| ew_name 1 rfl ⟨ps, rfl, aw_im <| ew_name 2 rfl <| aw_nil ⟨List.nodup_nil, ps, w, rfl, ok, h0, cs, _, rfl, rfl, q⟩⟩
def F_wished : CF := fun cs ds R => ∃ ps w, ds = [] ∧ cs.getLast? = some (stt ps w) ∧ R (.int w) cs
theorem mono_wished : MonoC F_wished := fun st ds R R' k ⟨ps, w, a, b, q⟩ => ⟨ps, w, a, b, k _ _ q⟩
theorem ok_wished {f : Addr} {fd : FuncData} (Fn : Fun K "wished" "Cart.wished" s_Cart_wished f fd) (TC : TxtC K mg g) : FnOk P w K mg base CX0 1 f fd ["self"] (spC K g F_wished) := by
  refine fn_bodyC Fn sc_Cart_wished (fun cs ds R h => ?_) (fun cdv A outer s H E Fr p dx l cs ds R hr h => ?_)
  · obtain ⟨ps, w, rfl, _⟩ := h; rfl
  · obtain ⟨ps, w, rfl, hl, q⟩ := h
    exact sw_cons <| s_ret <| ef_ew <| ew_ix <| ew_ixC 0 TC.carC rfl <| ew_minus <| ew_int ⟨1, rfl, cs, -1, _, rfl, rfl, at_last hl, ew_int ⟨[.shop ps, .int w], 1, _, rfl, rfl, rfl, cs, _, rfl, rfl, q⟩⟩
def F_extra : CF := fun cs ds R => ∃ ps w, ds = [] ∧ cs.getLast? = some (stt ps w) ∧ OkShop ps ∧ 0 ≤ w ∧ ∀ r : Nat, pr ps r ≤ pr ps w.toNat → pr ps w.toNat < pr ps (r + 1) → R (.int (r - w)) cs
theorem mono_extra : MonoC F_extra := fun st ds R R' k ⟨ps, w, a, b, c, d, q⟩ => ⟨ps, w, a, b, c, d, fun r h1 h2 => k _ _ (q r h1 h2)⟩
theorem ok_extra {f : Addr} {fd : FuncData} (Fn : Fun K "extra" "Cart.extra" s_Cart_extra f fd) (T : Txt K mg g) (TC : TxtC K mg g) (G1 : MtD P w K mg base g 1 g.shop "price" F_price) (G2 : FnD P w K mg base g 2 "largest_for" F_largest_for) : FnOk P w K mg base CX0 3 f fd ["self"] (spC K g F_extra) := by
  refine fn_bodyC Fn sc_Cart_extra (fun cs ds R h => ?_) (fun cdv A outer s H E Fr p dx l cs ds R hr h => ?_)
  · obtain ⟨ps, w, rfl, _⟩ := h; rfl
  · obtain ⟨ps, w, rfl, hl, ok, h0, q⟩ := h
    have hN : N_Cart_extra.Nodup := sc_Cart_extra.nd
    refine sw_cons <| s_setT <| ew_ixC 0 TC.carC rfl <| ew_minus <| ew_int ⟨1, rfl, cs, -1, _, rfl, rfl, at_last hl, gw_tup rfl <| gsw_cons <| gw_name 1 hN <| gsw_cons <| gw_name 2 hN <| gsw_nil ?_⟩
    refine sw_cons <| s_ret <| ef_ew <| ew_bin <| ew_call G2 hr <| aw_im <| ew_name 1 rfl <| aw_im <| ew_ef <| ef_meth T.shC G1 (hr.mono (by decide)) <| ew_name 1 rfl ⟨ps, rfl, aw_im <| ew_name 2 rfl <| aw_nil ⟨List.nodup_nil, ps, w, rfl, ok, h0, _, rfl, ?_⟩⟩
    exact aw_nil ⟨List.nodup_nil, ps, _, rfl, ok, pr_nonneg ok.pks _, fun r h2 h3 => ⟨_, rfl, ew_name 2 rfl <| ow_subI ⟨cs, _, rfl, rfl, q r h2 h3⟩⟩⟩
def F_move : CF := fun cs ds R => ∃ ps qs w, ds = [.shop qs] ∧ cs.getLast? = some (stt ps w) ∧ OkShop qs ∧ 0 ≤ w ∧ cs.length < 100000 ∧ R (.int (pr qs w.toNat)) (cs ++ [stt qs w])
theorem mono_move : MonoC F_move := fun st ds R R' k ⟨ps, qs, w, a, b, c, d, e, q⟩ => ⟨ps, qs, w, a, b, c, d, e, k _ _ q⟩
theorem ok_move {f : Addr} {fd : FuncData} (Fn : Fun K "move" "Cart.move" s_Cart_move f fd) (TC : TxtC K mg g) (G1 : FnD P w K mg base g 1 "need_shop" F_need_shop) (G2 : MtC P w K mg base g 2 "total" F_total) : FnOk P w K mg base CX0 3 f fd ["self", "shop"] (spC K g F_move) := by
  refine fn_bodyC Fn sc_Cart_move (fun cs ds R h => ?_) (fun cdv A outer s H E Fr p dx l cs ds R hr h => ?_)
  · obtain ⟨ps, qs, w, rfl, _⟩ := h; rfl
  · obtain ⟨ps, qs, w, rfl, hl, ok, h0, hc, q⟩ := h
    refine sw_cons <| s_expr <| ew_call G1 (hr.mono (by decide)) <| aw_im <| ew_name 1 rfl <| aw_nil ⟨List.nodup_nil, qs, rfl, _, rfl, ?_⟩
    refine sw_cons <| s_appC 0 TC.carC rfl <| ew_tup <| aw_im <| ew_name 1 rfl <| aw_im <| ew_ix <| ew_ixC 0 TC.carC rfl <| ew_minus <| ew_int ⟨1, rfl, cs, -1, _, rfl, rfl, at_last hl, ew_int ⟨[.shop ps, .int w], 1, _, rfl, rfl, rfl, aw_nil ⟨_, rfl, (by show 2 ≤ 10000; decide), cs, rfl, hc, ?_⟩⟩⟩
    exact sw_cons <| s_ret <| ef_ew <| ew_meth0C 0 TC.carC G2 hr rfl ⟨qs, w, rfl, by simp [stt], ok, h0, _, _, rfl, rfl, q⟩
def F_undo : CF := fun cs ds R => ds = [] ∧ 2 ≤ cs.length ∧ R .non cs.dropLast
theorem mono_undo : MonoC F_undo := fun st ds R R' k ⟨a, b, q⟩ => ⟨a, b, k _ _ q⟩
theorem ok_undo {f : Addr} {fd : FuncData} (Fn : Fun K "undo" "Cart.undo" s_Cart_undo f fd) (T : Txt K mg g) (TC : TxtC K mg g) : FnOk P w K mg base CX0 1 f fd ["self"] (spC K g F_undo) := by
  refine fn_bodyC Fn sc_Cart_undo (fun cs ds R h => ?_) (fun cdv A outer s H E Fr p dx l cs ds R hr h => ?_)
  · obtain ⟨rfl, _⟩ := h; rfl
  · obtain ⟨rfl, hc, q⟩ := h
    refine sw_cons <| s_if <| tw_cmp <| ew_lenC 0 TC.carC T.len rfl <| ew_int <| ow_eqI ⟨_, rfl, fun h => ?_, fun _ => sw_nil ?_⟩
    · have h : (cs.length : Int) = 1 := by simpa using h
      omega
    · have hne : cs ≠ [] := fun e => by rw [e] at hc; simp at hc
      exact sw_cons <| s_popC 0 TC.carC rfl hne <| sw_nil ⟨_, rfl, q⟩
def F_want : CF := fun cs ds R => ∃ (ns : List Int) (ps : List Pack) (w : Int), ds = ns.map Dt.int ∧ (∀ n ∈ ns, 0 ≤ n ∧ n ≤ 1000000) ∧ ns.length ≤ 1000 ∧ OkShop ps ∧ cs.getLast? = some (stt ps w) ∧ 0 ≤ w ∧ cs.length < 100000 ∧ R (.int (pr ps (w + ns.sum).toNat)) (cs ++ [stt ps (w + ns.sum)])
theorem mono_want : MonoC F_want := fun st ds R R' k ⟨ns, ps, w, a, b, c, d, e, h, i, q⟩ => ⟨ns, ps, w, a, b, c, d, e, h, i, k _ _ q⟩
def F_wantT : CF := fun cs ds R => ∃ (ns : List Int) (ps : List Pack) (w : Int), ds = [.tup (ns.map Dt.int)] ∧ (∀ n ∈ ns, 0 ≤ n ∧ n ≤ 1000000) ∧ ns.length ≤ 1000 ∧ OkShop ps ∧ cs.getLast? = some (stt ps w) ∧ 0 ≤ w ∧ cs.length < 100000 ∧ R (.int (pr ps (w + ns.sum).toNat)) (cs ++ [stt ps (w + ns.sum)])
theorem sum_nn {ns : List Int} (h : ∀ n ∈ ns, 0 ≤ n ∧ n ≤ 1000000) : 0 ≤ ns.sum := by
  induction ns with
  | nil => simp
  | cons n r ih =>
    have := ih fun m hm => h m (List.mem_cons_of_mem _ hm)
    have := (h n List.mem_cons_self).1
    rw [List.sum_cons]; omega
theorem ok_want {f : Addr} {fd : FuncData} (Fn : Fun K "want" "Cart.want" s_Cart_want f fd) (T : Txt K mg g) (TC : TxtC K mg g) (G1 : FnD P w K mg base g 2 "need_number" F_need_number) (G2 : MtC P w K mg base g 2 "total" F_total) : FnR P w K mg base CX0 3 f (spC K g F_want) := by
  obtain ⟨oc, od, kV, doc, pm, an, cdv, ct, osl, rfl, lk, hcd⟩ := Fn.ex
  refine FnR.imp (sp := fun vs H Q E => ∃ ws rest, vs = ws ++ rest ∧ ws.length = 1 ∧ rest.length ≤ sizeLine ∧ ∀ p, H p = none → spC K g F_wantT (ws ++ [V.ref p]) (upd H p (.tup rest)) Q E) (StX.fn_star (ps := ["self"]) (pv := "numbers") (N := N_Cart_want) lk hcd sc_Cart_want StX.cxUp_none (StX.bind_star1 (B := fun l => bindArgs _ ⟨l, []⟩) (fun a => rfl) fun a r rs => rfl) fun A outer s H vs Q E hr h => ?_) (fun vs H Q E h => ?_)
  · obtain ⟨Fr, H0, p, dx, l, cs, ds, s0, ns, ps, z, rfl, hns, hnl, ok, hl, h0, hc, q⟩ := h
    have hN : N_Cart_want.Nodup := sc_Cart_want.nd
    have hvl : vs.length = 2 := by simpa using s0.len
    refine ⟨_, PSs.nox pss_sem, ?_⟩
    have s1 : StR K g Fr H0 H (L2.start N_Cart_want vs) [.own p (.cart dx l cs), .im (.tup (ns.map Dt.int)), .no, .no, .no] := by
      match vs, hvl with
      | [a, b], _ =>
        refine ⟨s0.ex, s0.fr, s0.dis, rfl, fun i s h => ?_, s0.nd, s0.free⟩
        match i, h with
        | 0, h => cases h; exact s0.sl 0 _ rfl
        | 1, h => cases h; exact s0.sl 1 _ rfl
        | 2, h => cases h; trivial
        | 3, h => cases h; trivial
        | 4, h => cases h; trivial
        | n + 5, h => simp at h
    have body : SW (cxOf CX0 P w K mg base N_Cart_want "Cart.want" (defScope s_Cart_want) f cdv A outer s H E).nox g Fr (defBody s_Cart_want) [.own p (.cart dx l cs), .im (.tup (ns.map Dt.int)), .no, .no, .no]
        (deC p dx l fun d cs' => d = .int (pr ps (z + ns.sum).toNat) ∧ cs' = cs ++ [stt ps (z + ns.sum)]) := by
      obtain ⟨tw, eW⟩ := TC.mWished
      refine sw_cons <| s_forF rfl <| iw_t <| ew_name 1 rfl ⟨_, rfl, ?_⟩
      refine ⟨fun i S => S = [.own p (.cart dx l cs), .im (.tup (ns.map Dt.int)), .no, .no, .no], ⟨_, by walk_at "fg", rfl⟩, fun i x S' hx hP => ?_, fun S' hP => ?_⟩
      · subst hP
        rw [List.getElem?_map] at hx
        obtain ⟨n, hn, rfl⟩ := Option.map_eq_some_iff.mp hx
        obtain ⟨n0, n1⟩ := hns n (List.mem_of_getElem? hn)
        refine gw_name 2 hN ?_
        exact sw_cons <| s_expr <| ew_call G1 hr <| aw_im <| ew_name 2 rfl <| aw_im <| ew_int <| aw_im <| ew_globI eW <| aw_nil ⟨List.nodup_nil, n, 0, _, rfl, n0, n1, _, rfl, sw_nil ⟨_, by walk_at "fg", rfl⟩⟩
      · subst hP
        have hs := sum_nn hns
        refine sw_cons <| s_setT <| ew_ixC 0 TC.carC rfl <| ew_minus <| ew_int ⟨1, rfl, cs, -1, _, rfl, rfl, at_last hl, gw_tup rfl <| gsw_cons <| gw_name 3 hN <| gsw_cons <| gw_name 4 hN <| gsw_nil ?_⟩
        refine sw_cons <| s_appC 0 TC.carC rfl <| ew_tup <| aw_im <| ew_name 3 rfl <| aw_im <| ew_bin <| ew_name 4 rfl <| ew_callB T.sum bt_sum <| aw_im <| ew_name 1 rfl <| aw_nil <| cw_sumT rfl <| ow_addI <| aw_nil ⟨_, rfl, (by show 2 ≤ 10000; decide), cs, rfl, hc, ?_⟩
        exact sw_cons <| s_ret <| ef_ew <| ew_meth0C 0 TC.carC G2 hr rfl ⟨ps, z + ns.sum, rfl, by simp [stt], ok, by omega, _, _, rfl, rfl, rfl, rfl⟩
    refine semSs_mono (body _ _ _ s1) ⟨fun σ' H' ⟨S', H0', e, st', cs', h1, h2, h3⟩ => ?_, fun v H' ⟨r, S', σ', H0', e, st', cs', d, h1, er, h2, h3⟩ => ?_, fun _ _ ⟨_, _, _, _, q⟩ => q.elim, fun _ _ ⟨_, _, _, _, q⟩ => q.elim⟩
    · cases h2
    · subst er h2 h3
      exact q v H0' H' e (back_ofC s0 e st'.unsnoc h1 st'.last)
  · obtain ⟨Fr, H0, p, dx, l, cs, ds, s0, ns, ps, z, rfl, hns, hnl, ok, hl, h0, hc, q⟩ := h
    have hvl : vs.length = ns.length + 1 := by simpa using s0.len
    match vs, hvl with
    | v0 :: rest, hvl =>
      have hrl : rest.length = ns.length := by simpa using hvl
      have hv0 := (s0.own_at (i := 0) rfl).1
      have hv0 : v0 = .ref p := by simpa using hv0
      subst hv0
      have rr : RepL K g H0 rest (ns.map Dt.int) := repL_of (by simp [hrl]) fun i d hd => by
        obtain ⟨v, h1, h2⟩ := SlR.at s0 (i := i + 1) (d := d) (by
          show ((ns.map Dt.int).map Slot.im)[i]? = _
          rw [List.getElem?_map, hd]; rfl)
        refine ⟨v, ?_, h2⟩
        have h1 : (rest.map some)[i]? = some (some v) := h1
        rw [List.getElem?_map] at h1
        obtain ⟨u, hu, e⟩ := Option.map_eq_some_iff.mp h1
        cases e
        exact hu
      refine ⟨[.ref p], rest, rfl, rfl, by rw [hrl]; exact Nat.le_trans hnl (by decide), fun t ht => ?_⟩
      have ht0 : H0 t = none := s0.ex.free ht
      have s1 := s0.new (o := .tup rest) ht
      have s2 : StR K g Fr (upd H0 t (.tup rest)) (upd H t (.tup rest)) (([V.ref p] ++ [V.ref t]).map some) (.own p (.cart dx l cs) :: [Dt.tup (ns.map Dt.int)].map Slot.im) := by
        have fpe : ((Slot.own p (.cart dx l cs) :: [Dt.tup (ns.map Dt.int)].map Slot.im).flatMap Slot.fp) = ((Slot.own p (.cart dx l cs) :: (ns.map Dt.int).map Slot.im).flatMap Slot.fp) := by rw [List.flatMap_cons, List.flatMap_cons, im_fp, im_fp]
        refine ⟨s1.ex, s1.fr, s1.dis, rfl, fun i s h => ?_, by rw [fpe]; exact s1.nd, fun a ha => s1.free a (by rw [← fpe]; exact ha)⟩
        match i, h with
        | 0, h => cases h; exact s1.sl 0 _ rfl
        | 1, h => cases h; exact ⟨.ref t, rfl, .tup upd_same (rr.mono (Ex.new ht0))⟩
        | n + 2, h => simp at h
      refine ⟨Fr, upd H0 t (.tup rest), p, dx, l, cs, _, s2, ns, ps, z, rfl, hns, hnl, ok, hl, h0, hc, fun v H0' H' ex st' => ?_⟩
      exact q v H0' H' ((Ex.new ht0).trans ex) (back_ofC s0 ((Ex.new ht0).trans ex) st'.unsnoc (j := 0) rfl st'.last)
theorem mkc_mk {f : Addr} {fd : FuncData} {k : Nat} (at_ : mg "Cart" = some (.ref g.cart)) (M : Mk K g.cart f) (hb : Binds K fd ["self", "shop"] []) (ok : FnOk P w K mg base CX0 k f fd ["self", "shop"] (spCI K g)) : MkC P w K mg base g k :=
  ⟨at_, f, M, (ok.raw hb .nil).imp fun vs H Q E q => by rw [List.append_nil]; exact q⟩
def F_clen : FM := fun ss R => ∃ p dx l cs, ss = [.own p (.cart dx l cs)] ∧ 1 ≤ cs.length ∧ R (.im (.int ((cs.length - 1 : Nat) : Int)))
theorem mono_clen : Mono F_clen := fun ss R R' k ⟨p, dx, l, cs, a, b, q⟩ => ⟨p, dx, l, cs, a, b, k _ q⟩
theorem ok_clen {f : Addr} {fd : FuncData} (Fn : Fun K "__len__" "Cart.__len__" s_Cart_len f fd) (T : Txt K mg g) (TC : TxtC K mg g) : FnOk P w K mg base CX0 1 f fd ["self"] (spS K g F_clen) := by
  refine fn_body Fn sc_Cart_len (fun ss R h => ?_) (fun cdv A outer s H E Fr ss R hr h => ?_)
  · obtain ⟨p, dx, l, cs, rfl, _⟩ := h; rfl
  · obtain ⟨p, dx, l, cs, rfl, h1, q⟩ := h
    have e : DL.cutD cs (some 1) none = cs.drop 1 := by
      have e1 : HT.sIx cs.length 0 (some 1) = 1 := by show (if (1 : Int) < 0 then ((1 : Int) + (cs.length : Int)).toNat else min (1 : Int).toNat cs.length) = _; rw [if_neg (by decide)]; show min 1 cs.length = 1; omega
      have e2 : HT.sIx cs.length cs.length none = cs.length := rfl
      unfold DL.cutD
      rw [e1, e2]
      exact List.take_of_length_le (by rw [List.length_drop]; omega)
    refine sw_cons <| s_ret <| ef_ew <| ew_callB T.len bt_len <| aw_im <| ew_slC 0 TC.carC rfl <| ew_int ⟨1, rfl, cs, rfl, ?_⟩
    rw [e]
    refine aw_nil <| cw_len rfl ⟨⟨rfl, trivial⟩, ?_⟩
    rw [List.length_drop]; exact q
def F_ceq : FM := fun ss R => ∃ p dx l cs p' dx' l' cs' ps qs n m, ss = [.own p (.cart dx l cs), .own p' (.cart dx' l' cs')] ∧ cs.getLast? = some (stt ps n) ∧ cs'.getLast? = some (stt qs m) ∧ R (.im (.bl (decide (ps = qs) && decide (n = m))))
theorem mono_ceq : Mono F_ceq := fun ss R R' k ⟨p, dx, l, cs, p', dx', l', cs', ps, qs, n, m, a, b, c, q⟩ => ⟨p, dx, l, cs, p', dx', l', cs', ps, qs, n, m, a, b, c, k _ q⟩
theorem ok_ceq {f : Addr} {fd : FuncData} (Fn : Fun K "__eq__" "Cart.__eq__" s_Cart_eq f fd) (T : Txt K mg g) (TC : TxtC K mg g) (G : EqSB P w K mg base g 1) : FnOk P w K mg base CX0 3 f fd ["self", "other"] (spS K g F_ceq) := by
  refine fn_body Fn sc_Cart_eq (fun ss R h => ?_) (fun cdv A outer s H E Fr ss R hr h => ?_)
  · obtain ⟨p, dx, l, cs, p', dx', l', cs', ps, qs, n, m, rfl, _⟩ := h; rfl
  · obtain ⟨p, dx, l, cs, p', dx', l', cs', ps, qs, n, m, rfl, h1, h2, q⟩ := h
    refine sw_cons <| s_if <| tw_not <| tw_val <| ew_callB T.isinstance bt_isinstance <| aw_own 1 rfl <| aw_im <| ew_cls TC.crt <| aw_nil ⟨_, rfl, cw_isCart TC.carC ⟨_, rfl, nofun, fun _ => sw_nil ?_⟩⟩
    exact sw_cons <| s_ret <| ef_ew <| ew_cmp <| ew_ixC 0 TC.carC rfl <| ew_minus <| ew_int ⟨1, rfl, cs, -1, _, rfl, rfl, at_last h1, ew_ixC 1 TC.carC rfl <| ew_minus <| ew_int ⟨1, rfl, cs', -1, _, rfl, rfl, at_last h2, ow_eqSB G hr ⟨⟨rfl, rfl, trivial⟩, q⟩⟩⟩

theorem cutA {xs : List Dt} {k : Int} (h0 : 0 ≤ k) (h1 : k ≤ xs.length) : DL.cutD xs none (some k) = xs.take k.toNat := by
  have e1 : HT.sIx xs.length 0 none = 0 := rfl
  have e2 : HT.sIx xs.length xs.length (some k) = k.toNat := by show (if k < 0 then _ else min k.toNat xs.length) = _; rw [if_neg (by omega)]; omega
  unfold DL.cutD
  rw [e1, e2, List.drop_zero, Nat.sub_zero]
theorem p30 {packs : List Pack} (h : ∀ q ∈ packs, OkPack q) : ∀ q ∈ packs, q.1.toNat ≤ 30 := fun q hq => by have := (h q hq).2.1; omega
theorem rep_ints (n : Nat) (a : Int) : (List.replicate n [Dt.int a]).flatten = (List.replicate n a).map Dt.int := by rw [List.map_replicate]; exact List.flatten_replicate_singleton
theorem pr_one_le {ps : List Pack} (ok : OkShop ps) : pr ps 1 ≤ 1000000 := by
  obtain ⟨p, hp⟩ := List.exists_mem_of_ne_nil _ ok.ne
  obtain ⟨a, b, c, d⟩ := ok.ok p hp
  have := pr_le ok.pks hp 1
  rw [show 1 - p.1.toNat = 0 by omega, pr_zero] at this
  omega
theorem sum_le {l : List Int} {m : Int} (h : ∀ w ∈ l, w ≤ m) : l.sum ≤ m * l.length := by
  induction l with
  | nil => simp
  | cons a r ih =>
    have := ih fun w hw => h w (List.mem_cons_of_mem _ hw)
    have := h a List.mem_cons_self
    rw [List.sum_cons, List.length_cons, show ((r.length + 1 : Nat) : Int) = r.length + 1 by omega, Int.mul_add, Int.mul_one]; omega
theorem cutB {xs : List Dt} {k : Int} (h0 : 0 ≤ k) (h1 : k ≤ xs.length) : DL.cutD xs (some k) none = xs.drop k.toNat := by
  have e1 : HT.sIx xs.length 0 (some k) = k.toNat := by show (if k < 0 then _ else min k.toNat xs.length) = _; rw [if_neg (by omega)]; omega
  have e2 : HT.sIx xs.length xs.length none = xs.length := rfl
  unfold DL.cutD
  rw [e1, e2]
  exact List.take_of_length_le (by rw [List.length_drop]; omega)
theorem cutA0 {xs : List Dt} {k : Int} (h0 : 0 ≤ k) : DL.cutD xs none (some k) = xs.take k.toNat := by
  by_cases c : k ≤ xs.length
  · exact cutA h0 c
  · have e1 : HT.sIx xs.length 0 none = 0 := rfl
    have e2 : HT.sIx xs.length xs.length (some k) = xs.length := by show (if k < 0 then _ else min k.toNat xs.length) = _; rw [if_neg (by omega)]; omega
    unfold DL.cutD
    rw [e1, e2, List.drop_zero, Nat.sub_zero, List.take_length, List.take_of_length_le (by omega)]

/-! ### the law -/
theorem pr_million {ps : List Pack} (ok : OkShop ps) (n : Nat) : pr ps n ≤ 1000000 * n + 1000000 := pr_bound ok.pks (by decide) (fun p hp => by
  obtain ⟨a, b, c, d⟩ := ok.ok p hp
  exact ⟨by omega, d⟩) n
theorem most_one {ps : List Pack} (ok : OkShop ps) {t : Int} {r s : Nat} (h1 : pr ps r ≤ t) (h2 : t < pr ps (r + 1)) (h3 : pr ps s ≤ t) (h4 : t < pr ps (s + 1)) : r = s := (mf_eq ok.pks ⟨h1, h2⟩).symm.trans (mf_eq ok.pks ⟨h3, h4⟩)
theorem sum_some {ws : List Int} {m : Int} (h : ∀ w ∈ ws, 0 ≤ w ∧ w ≤ m) : 0 ≤ ws.sum ∧ ws.sum ≤ m * ws.length := by
  induction ws with
  | nil => simp
  | cons a r ih =>
    have := ih fun w hw => h w (List.mem_cons_of_mem _ hw)
    have := h a List.mem_cons_self
    rw [List.sum_cons, List.length_cons, show ((r.length + 1 : Nat) : Int) = r.length + 1 by omega, Int.mul_add, Int.mul_one]; omega
theorem pr_one_pos {ps : List Pack} (ok : OkShop ps) : 0 < pr ps 1 := by
  obtain ⟨b1, b2, b3, b4⟩ := ok.ok _ (bestOf_mem ok.ne)
  have rt := pr_rate ok.pks (bestOf_best ok.pks) 1
  rcases Int.lt_or_le 0 (pr ps 1) with h | h
  · exact h
  · have := Int.mul_le_mul_of_nonneg_right h (show 0 ≤ (bestOf ps).1 by omega)
    rw [Int.zero_mul] at this
    rw [show ((1 : Nat) : Int) = 1 from rfl, Int.one_mul] at rt
    omega
theorem most_zero {ps : List Pack} (ok : OkShop ps) {r : Nat} (h1 : pr ps r ≤ pr ps (0 : Int).toNat) (h2 : pr ps (0 : Int).toNat < pr ps (r + 1)) : r = 0 :=
  most_one ok h1 h2 (Int.le_refl _) (by have := pr_one_pos ok; rw [show (0 : Int).toNat = 0 from rfl, pr_zero]; exact this)
theorem most_near {ps : List Pack} (ok : OkShop ps) {n : Int} (h0 : 0 ≤ n) {r : Nat} (h1 : pr ps r ≤ pr ps n.toNat) (h2 : pr ps n.toNat < pr ps (r + 1)) : n ≤ r ∧ (r : Int) ≤ n + 30 ∧ pr ps r = pr ps n.toNat := by
  have a : n ≤ r := by
    rcases Int.lt_or_le (r : Int) n with h | h
    · have := pr_mono ok.pks (show r + 1 ≤ n.toNat by omega); omega
    · exact h
  refine ⟨a, ?_, Int.le_antisymm h1 (pr_mono ok.pks (show n.toNat ≤ r by omega))⟩
  rcases Int.lt_or_le 0 n with h | h
  · have g := got_near ok.pks ok.h30 h
    unfold got at g
    rw [if_pos h, mf_eq ok.pks ⟨h1, h2⟩] at g
    omega
  · have : n = 0 := by omega
    subst this
    rw [most_zero ok h1 h2]; decide
theorem head_drop {xs : List Dt} (h : 2 ≤ xs.length) : xs.dropLast.head? = xs.head? := by
  match xs, h with
  | a :: b :: r, _ => rfl
theorem one_head {xs : List Dt} {d : Dt} (h : xs.length = 1) (e : xs.head? = some d) : xs = [d] := by
  match xs, h with
  | [a], _ => simp at e; rw [e]
theorem ints_of {acc : List Dt} {P : Int → Prop} (h : ∀ y ∈ acc, ∃ n, y = Dt.int n ∧ P n) : ∃ ns : List Int, acc = ns.map Dt.int ∧ ∀ n ∈ ns, P n := by
  induction acc with
  | nil => exact ⟨[], rfl, by simp⟩
  | cons y r ih =>
    obtain ⟨ns, e, q⟩ := ih fun z hz => h z (List.mem_cons_of_mem _ hz)
    obtain ⟨n, rfl, hn⟩ := h y List.mem_cons_self
    exact ⟨n :: ns, by simp [e], fun m hm => by
      rcases List.mem_cons.mp hm with z | z
      · rw [z]; exact hn
      · exact q m z⟩
theorem ok_law {f : Addr} {fd : FuncData} (Fn : Fun K "law" "law" s_law f fd) (T : Txt K mg g) (Gs : FnD P w K mg base g 1 "_law_source" F_source) (Gd : FnD P w K mg base g 1 "_law_draw" F_draw) (Gc : FnD P w K mg base g 2 "_law_choice" F_choice) (Gp : FnD P w K mg base g 3 "_law_packs" F_lpacks) (Gh : FnD P w K mg base g 6 "_law_shop" F_lshop) (Gmp : FnD P w K mg base g 3 "most_pieces" F_most_pieces) (Gcall : CalD P w K mg base g 3 F_call) (M : MkS P w K mg base g 3) (hE : mg "enumerate" = none) (MC : MkC P w K mg base g 2) (TC : TxtC K mg g) (Gwant : MtC P w K mg base g 3 "want" F_want) (Gmove : MtC P w K mg base g 3 "move" F_move) (Gundo : MtC P w K mg base g 1 "undo" F_undo) (Gtotal : MtC P w K mg base g 2 "total" F_total) (Gwished : MtC P w K mg base g 1 "wished" F_wished) (Gextra : MtC P w K mg base g 3 "extra" F_extra) (Gclen : BinC P w K mg base g 1 "__len__" F_clen) (Gceq : BinC P w K mg base g 3 "__eq__" F_ceq) : FnOk P w K mg base CX0 7 f fd ["script"] (spS K g F_law) := by
  refine fn_body Fn sc_law (fun ss R h => ?_) (fun cdv A outer s H E Fr ss R hr h => ?_)
  · obtain ⟨ns, rfl, _⟩ := h; rfl
  · obtain ⟨ns, rfl, hlen, q⟩ := h
    have hN : N_law.Nodup := sc_law.nd
    have C := T.shC
    have at0 : ∀ s : Int × Int, atI [Dt.int s.1, Dt.int s.2] 0 = some (.int s.1) := fun _ => rfl
    have at1 : ∀ s : Int × Int, atI [Dt.int s.1, Dt.int s.2] 1 = some (.int s.2) := fun _ => rfl
    have hr1 : Room 1 _ := hr.mono (by decide)
    have hr2 : Room 2 _ := hr.mono (by decide)
    have hr3 : Room 3 _ := hr.mono (by decide)
    have hr4 : Room 4 _ := hr.mono (by decide)
    have hr5 : Room 5 _ := hr.mono (by decide)
    have hr6 : Room 6 _ := hr
    refine sw_cons <| s_forF rfl <| iw_r1 T.range <| ew_bin <| ew_int <| ew_callB T.min bt_min <| aw_im <| ew_callB T.len bt_len <| aw_im <| ew_name 0 rfl <| aw_nil <| cw_lenS <| aw_im <| ew_int <| aw_nil <| cw_min2 rfl <| ow_addI ⟨_, rfl, by split <;> omega, by split <;> omega, ?_⟩
    refine ⟨fun i S => S = .im (.scr ns) :: (List.replicate (N_law.length - 1) .no), ⟨_, by walk_at "fg", rfl⟩, fun i x S' hxi hP => ?_, fun S' hP => ?_⟩
    · subst hP
      obtain ⟨rfl, hi⟩ := cell_int (m := 15) hxi (by split <;> omega)
      refine gw_name 1 hN ?_
      refine sw_cons <| s_set 2 hN <| ef_call Gs hr1 <| aw_im <| ew_name 0 rfl <| aw_im <| ew_name 1 rfl <| aw_nil ⟨List.nodup_nil, ns, _, rfl, by omega, by omega, fun p => ?_⟩
      refine sw_cons <| s_set 3 hN <| ef_call Gh hr6 <| aw_im <| ew_call Gp hr3 <| aw_own 2 rfl <| aw_im <| ew_int <| aw_im <| ew_int <| aw_nil ⟨.src, rfl, nd2 _ _, p, 8, 30, rfl, by decide, by decide, by decide, by decide, fun packs hne hpl hpk => ⟨_, rfl, aw_nil ⟨List.nodup_nil, packs, rfl, hne, okp_of (by decide) hpk, by omega, ?_⟩⟩⟩
      have okS : OkShop (neededOf packs) := .of hne (okp_of (by decide) hpk)
      generalize neededOf packs = ps at okS
      have hS := okS.pks
      refine sw_cons <| s_set 4 hN <| ef_call Gc hr2 <| aw_own 2 rfl <| aw_im <| ew_lst <| aw_im <| ew_int <| aw_im <| ew_bin <| ew_bin <| ew_int <| ew_int <| ow_powI (by decide) <| ew_int <| ow_addI <| aw_nil ⟨_, rfl, (by show 2 ≤ 10000; decide), aw_nil ⟨.src, rfl, nd1 _, p, _, _, rfl, rfl, (by show 1 ≤ 2; decide), (by show 2 < 100000; decide), fun y hy => ?_⟩⟩
      obtain ⟨wd, rfl, wd1, wd2⟩ : ∃ wd : Int, y = .int wd ∧ 1 ≤ wd ∧ wd ≤ 1000001 := by
        simp only [List.mem_cons, List.not_mem_nil, or_false] at hy
        rcases hy with e | e
        · exact ⟨_, e, by decide, by decide⟩
        · exact ⟨_, e, by decide, by decide⟩
      refine sw_cons <| s_setLc 5 [("turn", 6)] rfl hN (blkOk_by (N := N_law) (sc := defScope s_law) (by decide +kernel)) <| iw_r1 T.range <| ew_bin <| ew_int <| ew_call Gd hr1 <| aw_own 2 rfl <| aw_im <| ew_int <| aw_nil ⟨.src, rfl, nd1 _, p, 11, rfl, by decide, by decide, fun m m0 m1 => ⟨_, rfl, ow_addI ⟨_, rfl, by omega, by omega, rfl, ?_⟩⟩⟩
      refine lc_rel (fun y => ∃ n, y = Dt.int n ∧ (0 ≤ n ∧ n ≤ 1000000)) _ (by rw [rangeD_len]; omega) (fun Fr' jj x hx s H' C' cl fp => ?_) (fun acc al ay => ?_)
      · obtain ⟨rfl, _⟩ := cell_int (m := 100) hx (by omega)
        refine gv_name 6 hN fun s H' C' cl fp => ?_
        exact ew_call Gd hr1 <| aw_own 2 rfl <| aw_im <| ew_name 4 rfl <| aw_nil ⟨.src, rfl, nd1 _, p, wd, rfl, by omega, by omega, fun v v0 v1 => ⟨_, rfl, rfl, v, rfl, v0, by omega⟩⟩
      obtain ⟨ws, rfl, wb⟩ := ints_of ay
      rw [List.length_map, rangeD_len] at al
      have wl : 2 ≤ ws.length ∧ ws.length ≤ 12 := by omega
      obtain ⟨a, b, rest, rfl⟩ : ∃ a b rest, ws = a :: b :: rest := by
        match ws, wl.1 with
        | a :: b :: rest, _ => exact ⟨a, b, rest, rfl⟩
      have wsum := sum_some wb
      have rl : rest.length ≤ 10 := by have := wl.2; simp at this; omega
      have rb : ∀ w ∈ rest, 0 ≤ w ∧ w ≤ 1000000 := fun w h => wb w (by simp [h])
      have ab := wb a (by simp)
      have bb := wb b (by simp)
      have wlen : (a :: b :: rest).length = rest.length + 2 := rfl
      have wsb : 0 ≤ (a :: b :: rest).sum ∧ (a :: b :: rest).sum ≤ 12000000 := by omega
      have wsd : (a :: b :: rest).sum = a + (b + rest.sum) := by simp
      have tk : ∀ n, 0 ≤ ((a :: b :: rest).take n).sum ∧ ((a :: b :: rest).take n).sum ≤ 12000000 := fun n => by
        have q := sum_some (ws := (a :: b :: rest).take n) (m := 1000000) fun w h => wb w (List.mem_of_mem_take h)
        have : ((a :: b :: rest).take n).length ≤ 12 := by rw [List.length_take]; omega
        exact ⟨q.1, by omega⟩
      refine sw_cons <| s_parX3 7 8 9 rfl hN <| ax_f <| ef_makeC MC hr3 <| ew_name 3 rfl ⟨ps, rfl, fun c cx cl Fr1 => ax_f <| ef_makeC MC hr3 <| ew_name 3 rfl ⟨ps, rfl, fun d dx dl Fr2 => ax_im <| ew_callB T.sum bt_sum <| aw_im <| ew_name 5 rfl <| aw_nil <| cw_sumL rfl fun Fr3 => ax_nil ⟨_, _, _, rfl, (by show 7 < 13; decide), (by show 8 < 13; decide), (by show 9 < 13; decide), ?_⟩⟩⟩
      refine sw_cons <| s_forF rfl <| iw_enL hE <| ew_name 5 rfl ⟨_, rfl, ?_⟩
      refine ⟨fun i S => ∃ cs : List Dt, S = [.im (.scr ns), .no, .own p .src, .im (.shop ps), .no, .im (.lst ((a :: b :: rest).map Dt.int)), .no, .own c (.cart cx cl cs), .own d (.cart dx dl [stt ps 0]), .im (.int (a :: b :: rest).sum), .no, .no, .no] ∧ cs.length = i + 1 ∧ cs.getLast? = some (stt ps ((a :: b :: rest).take i).sum) ∧ cs.head? = some (stt ps 0),
        ⟨_, by walk_at "fg", [stt ps 0], rfl, rfl, rfl, rfl⟩, fun i x S' hxi hP' => ?_, fun S' hP' => ?_⟩
      · obtain ⟨cs, rfl, cl_, cz, ch⟩ := hP'
        obtain ⟨x0, hx0, rfl⟩ := enumD_at hxi
        obtain ⟨w, hw, rfl⟩ := get_map hx0
        have wbw := wb w (List.mem_of_getElem? hw)
        have hi : i < (a :: b :: rest).length := (List.getElem?_eq_some_iff.mp hw).1
        have et : (a :: b :: rest).take (i + 1) = (a :: b :: rest).take i ++ [w] := take_snoc hw
        have es : ((a :: b :: rest).take (i + 1)).sum = ((a :: b :: rest).take i).sum + w := by rw [et, List.sum_append]; simp
        have t1 := tk i
        have t2 := tk (i + 1)
        refine gw_tup rfl <| gsw_cons <| gw_name 10 hN <| gsw_cons <| gw_name 11 hN <| gsw_nil ?_
        refine sw_cons <| s_if <| tw_cmp <| ew_methC 7 TC.carC Gwant hr3 rfl <| aw_im <| ew_name 11 rfl <| aw_nil ⟨_, cs, rfl, rfl, [w], ps, _, rfl, (fun n hn => by rw [List.mem_singleton.mp hn]; omega), (by show 1 ≤ 1000; decide), okS, cz, t1.1, by omega, ?_⟩
        rw [show ((a :: b :: rest).take i).sum + [w].sum = ((a :: b :: rest).take (i + 1)).sum by rw [es]; simp]
        refine ew_ef <| ef_callO Gcall hr3 <| ew_name 3 rfl ⟨ps, rfl, aw_im <| ew_callB T.sum bt_sum <| aw_im <| ew_slL <| ew_name 5 rfl <| ew_bin <| ew_name 10 rfl <| ew_int <| ow_addI ⟨_, rfl, _, rfl, ?_⟩⟩
        rw [cutA0 (by omega), ← List.map_take, show ((i : Int) + 1).toNat = i + 1 by omega]
        refine aw_nil <| cw_sumL rfl <| aw_nil ⟨List.nodup_nil, ps, _, rfl, okS, t2.1, by omega, _, rfl, ow_neI ⟨_, rfl, (fun h => by simp at h), fun _ => sw_nil <| sw_nil ?_⟩⟩
        exact ⟨[.im (.scr ns), .no, .own p .src, .im (.shop ps), .no, .im (.lst ((a :: b :: rest).map Dt.int)), .no, .own c (.cart cx cl (cs ++ [stt ps ((a :: b :: rest).take (i + 1)).sum])), .own d (.cart dx dl [stt ps 0]), .im (.int (a :: b :: rest).sum), .no, .no, .no], by walk_at "fg", _, rfl, by rw [List.length_append, cl_]; rfl, by simp, by rw [List.head?_append, ch]; rfl⟩
      · obtain ⟨cs, rfl, cl_, cz, ch⟩ := hP'
        rw [enumD_len, List.length_map] at cl_ cz
        rw [List.take_length] at cz
        generalize hwh : (a :: b :: rest).sum = wh at cz wsb wsd
        refine sw_cons <| s_forF rfl <| iw_l <| ew_rev <| ew_slL <| ew_name 5 rfl <| ew_int ⟨2, rfl, _, rfl, _, rfl, _, rfl, ?_⟩
        rw [cutB (by decide) (by rw [List.length_map, wlen]; omega)]
        have er : (((a :: b :: rest).map Dt.int).drop (2 : Int).toNat).reverse = (rest.reverse).map Dt.int := by rw [List.map_reverse]; rfl
        rw [er]
        have vb : ∀ w ∈ rest.reverse, 0 ≤ w ∧ w ≤ 1000000 := fun w h => rb w (List.mem_reverse.mp h)
        have vl : rest.reverse.length = rest.length := List.length_reverse
        have vs : rest.reverse.sum = rest.sum := List.sum_reverse _
        generalize rest.reverse = vs' at vb vl vs
        have tv : ∀ n, 0 ≤ (vs'.take n).sum ∧ (vs'.take n).sum ≤ 12000000 := fun n => by
          have q := sum_some (ws := vs'.take n) (m := 1000000) fun w h => vb w (List.mem_of_mem_take h)
          have : (vs'.take n).length ≤ 12 := by rw [List.length_take]; omega
          exact ⟨q.1, by omega⟩
        refine ⟨fun i S => ∃ ds : List Dt, S = [.im (.scr ns), .no, .own p .src, .im (.shop ps), .no, .im (.lst ((a :: b :: rest).map Dt.int)), .no, .own c (.cart cx cl cs), .own d (.cart dx dl ds), .im (.int wh), .no, .no, .no] ∧ ds.length = i + 1 ∧ ds.getLast? = some (stt ps (vs'.take i).sum) ∧ ds.head? = some (stt ps 0),
          ⟨_, by walk_at "fg", [stt ps 0], rfl, rfl, rfl, rfl⟩, fun i x S' hxi hP' => ?_, fun S' hP' => ?_⟩
        · obtain ⟨ds, rfl, dl_, dz, dh⟩ := hP'
          obtain ⟨w, hw, rfl⟩ := get_map hxi
          have wbw := vb w (List.mem_of_getElem? hw)
          have hi : i < vs'.length := (List.getElem?_eq_some_iff.mp hw).1
          have es : (vs'.take (i + 1)).sum = (vs'.take i).sum + [w].sum := by rw [take_snoc hw, List.sum_append]
          have t1 := tv i
          refine gw_name 11 hN ?_
          refine sw_cons <| s_expr <| ew_methC 8 TC.carC Gwant hr3 rfl <| aw_im <| ew_name 11 rfl <| aw_nil ⟨_, ds, rfl, rfl, [w], ps, _, rfl, (fun n hn => by rw [List.mem_singleton.mp hn]; omega), (by show 1 ≤ 1000; decide), okS, dz, t1.1, by omega, sw_nil ?_⟩
          rw [← es]
          exact ⟨[.im (.scr ns), .no, .own p .src, .im (.shop ps), .no, .im (.lst ((a :: b :: rest).map Dt.int)), .no, .own c (.cart cx cl cs), .own d (.cart dx dl (ds ++ [stt ps (vs'.take (i + 1)).sum])), .im (.int wh), .no, .no, .no], by walk_at "fg", _, rfl, by rw [List.length_append, dl_]; rfl, by simp, by rw [List.head?_append, dh]; rfl⟩
        · obtain ⟨ds, rfl, dl_, dz, dh⟩ := hP'
          rw [List.length_map] at dl_ dz
          rw [List.take_length] at dz
          have tv1 := tv vs'.length
          rw [List.take_length] at tv1
          have hx0 : atI ((a :: b :: rest).map Dt.int) 0 = some (.int a) := at_getD (by decide) (by rw [wlen]; omega)
          have hx1 : atI ((a :: b :: rest).map Dt.int) 1 = some (.int b) := at_getD (by decide) (by rw [wlen]; omega)
          have e2 : vs'.sum + [b, a].sum = wh := by simp; omega
          refine sw_cons <| s_if <| tw_w <| ww_or <| tw_cmp <| ew_methC 8 TC.carC Gwant hr3 rfl <| aw_im <| ew_ix <| ew_name 5 rfl <| ew_int ⟨_, 1, _, rfl, rfl, hx1, aw_im <| ew_ix <| ew_name 5 rfl <| ew_int ⟨_, 0, _, rfl, rfl, hx0, aw_nil ⟨_, ds, rfl, rfl, [b, a], ps, _, rfl, (fun n hn => by
            simp only [List.mem_cons, List.not_mem_nil, or_false] at hn
            omega), (by show 2 ≤ 1000; decide), okS, dz, tv1.1, by omega, ?_⟩⟩⟩
          rw [e2]
          have dz2 : (ds ++ [stt ps wh]).getLast? = some (stt ps wh) := by simp
          have dl2 : (ds ++ [stt ps wh]).length = rest.length + 2 := by rw [List.length_append, dl_]; show vs'.length + 1 + 1 = _; omega
          have dh2 : (ds ++ [stt ps wh]).head? = some (stt ps 0) := by rw [List.head?_append, dh]; rfl
          generalize ds ++ [stt ps wh] = ds2 at dz2 dl2 dh2
          refine ew_ef <| ef_callO Gcall hr3 <| ew_name 3 rfl ⟨ps, rfl, aw_im <| ew_name 9 rfl <| aw_nil ⟨List.nodup_nil, ps, wh, rfl, okS, wsb.1, by omega, _, rfl, ow_neI ⟨_, rfl, (fun h => by simp at h), fun _ => ?_⟩⟩⟩
          refine ww_or <| tw_cmp <| ew_meth0C 7 TC.carC Gwished hr1 rfl ⟨ps, wh, rfl, cz, ew_name 9 rfl <| ow_neI ⟨_, rfl, (fun h => by simp at h), fun _ => ?_⟩⟩
          refine ww_one <| tw_cmp <| ew_meth0C 8 TC.carC Gwished hr1 rfl ⟨ps, wh, rfl, dz2, ew_name 9 rfl <| ow_neI ⟨_, rfl, (fun h => by simp at h), fun _ => sw_nil ?_⟩⟩
          refine sw_cons <| s_ifF (tw_w <| ww_or <| tw_not <| tw_eqC 7 8 Gceq hr3 rfl rfl ⟨_, _, _, _, _, _, _, _, ps, ps, wh, wh, rfl, cz, dz2, _, rfl, _, rfl, (fun h => by simp at h), fun _ => ?_⟩) ?_
          · refine ww_or <| tw_cmp <| ew_callB T.len bt_len <| aw_own 7 rfl <| aw_nil ⟨_, rfl, cw_lenC Gclen hr2 ⟨_, _, _, _, rfl, by omega, _, rfl, by omega, by omega, ew_callB T.len bt_len <| aw_im <| ew_name 5 rfl <| aw_nil <| cw_len rfl <| ow_neI ⟨_, rfl, (fun h => ?_), fun _ => ?_⟩⟩⟩
            · rw [List.length_map, cl_, show (a :: b :: rest).length + 1 - 1 = (a :: b :: rest).length by omega] at h; simp at h
            refine ww_one <| tw_cmp <| ew_callB T.len bt_len <| aw_own 8 rfl <| aw_nil ⟨_, rfl, cw_lenC Gclen hr2 ⟨_, _, _, _, rfl, by omega, _, rfl, by omega, by omega, ew_bin <| ew_callB T.len bt_len <| aw_im <| ew_name 5 rfl <| aw_nil <| cw_len rfl <| ew_int <| ow_subI <| ow_neI ⟨_, rfl, ?_, rfl⟩⟩⟩
            rw [List.length_map, dl2, show ((rest.length + 2 - 1 : Nat) : Int) = ((a :: b :: rest).length : Int) - 1 by rw [wlen]; omega]; simp
          refine sw_nil <| sw_cons <| s_ifF (tw_cmp <| ew_meth0C 7 TC.carC Gextra hr3 rfl ⟨ps, wh, rfl, cz, okS, wsb.1, fun r r1 r2 => ew_bin <| ew_call Gmp hr3 <| aw_im <| ew_name 3 rfl <| aw_im <| ew_name 9 rfl <| aw_nil ⟨List.nodup_nil, ps, wh, rfl, okS, wsb.1, by omega, fun r' r3 r4 => ⟨_, rfl, ew_name 9 rfl <| ow_subI <| ow_neI ⟨_, rfl, ?_, rfl⟩⟩⟩⟩) ?_
          · rw [most_one okS r1 r2 r3 r4]; simp
          refine sw_nil <| sw_cons <| s_if <| tw_w <| ww_or <| tw_cmp <| ew_methC 7 TC.carC Gwant hr3 rfl <| aw_im <| ew_meth0C 7 TC.carC Gextra hr3 rfl ⟨ps, wh, rfl, cz, okS, wsb.1, fun r r1 r2 => ?_⟩
          obtain ⟨n1, n2, n3⟩ := most_near okS wsb.1 r1 r2
          refine aw_nil ⟨_, cs, rfl, rfl, [(r : Int) - wh], ps, wh, rfl, (fun n hn => by rw [List.mem_singleton.mp hn]; omega), (by show 1 ≤ 1000; decide), okS, cz, wsb.1, by omega, ?_⟩
          rw [show wh + [(r : Int) - wh].sum = (r : Int) by simp; omega, Int.toNat_natCast, n3]
          have cz2 : (cs ++ [stt ps r]).getLast? = some (stt ps r) := by simp
          have cl2 : (cs ++ [stt ps r]).length = rest.length + 4 := by rw [List.length_append, cl_]; rfl
          have ch2 : (cs ++ [stt ps r]).head? = some (stt ps 0) := by rw [List.head?_append, ch]; rfl
          generalize cs ++ [stt ps r] = cs2 at cz2 cl2 ch2
          refine ew_ef <| ef_callO Gcall hr3 <| ew_name 3 rfl ⟨ps, rfl, aw_im <| ew_name 9 rfl <| aw_nil ⟨List.nodup_nil, ps, wh, rfl, okS, wsb.1, by omega, _, rfl, ow_neI ⟨_, rfl, (fun h => by simp at h), fun _ => ?_⟩⟩⟩
          refine ww_one <| tw_cmp <| ew_meth0C 7 TC.carC Gextra hr3 rfl ⟨ps, r, rfl, cz2, okS, by omega, fun r' r3 r4 => ew_int <| ow_neI ⟨_, rfl, (fun h => ?_), fun _ => sw_nil ?_⟩⟩
          · rw [Int.toNat_natCast, n3] at r3 r4
            rw [most_one okS r3 r4 r1 r2] at h; simp at h
          refine sw_cons <| s_if <| tw_w <| ww_or <| tw_w <| ww_and <| tw_eqC 7 8 Gceq hr3 rfl rfl ⟨_, _, _, _, _, _, _, _, ps, ps, (r : Int), wh, rfl, cz2, dz2, _, rfl, _, rfl, fun h => ?_, fun _ => ⟨nofun, fun _ => ?_⟩⟩
          · have erw : (r : Int) = wh := by simpa using h
            refine ww_one <| tw_cmp <| ew_meth0C 7 TC.carC Gwished hr1 rfl ⟨ps, (r : Int), rfl, cz2, ew_meth0C 8 TC.carC Gwished hr1 rfl ⟨ps, wh, rfl, dz2, ow_neI ⟨_, rfl, (fun h => by rw [erw] at h; simp at h), fun _ => ?_⟩⟩⟩
            refine ww_one <| tw_cmp <| ew_methC 8 TC.carC Gmove hr3 rfl <| aw_im <| ew_name 3 rfl <| aw_nil ⟨_, ds2, rfl, rfl, ps, ps, wh, rfl, dz2, okS, wsb.1, by omega, ?_⟩
            refine ew_ef <| ef_callO Gcall hr3 <| ew_name 3 rfl ⟨ps, rfl, aw_im <| ew_name 9 rfl <| aw_nil ⟨List.nodup_nil, ps, wh, rfl, okS, wsb.1, by omega, _, rfl, ow_neI ⟨_, rfl, (fun h => by simp at h), fun _ => sw_nil ?_⟩⟩⟩
            have cc : 1 ≤ cs2.length ∧ cs2.head? = some (stt ps 0) ∧ cs2.length ≤ 100 := ⟨by omega, ch2, by omega⟩
            have dc : 1 ≤ (ds2 ++ [stt ps wh]).length ∧ (ds2 ++ [stt ps wh]).head? = some (stt ps 0) ∧ (ds2 ++ [stt ps wh]).length ≤ 100 := ⟨by simp, by rw [List.head?_append, dh2]; rfl, by rw [List.length_append, dl2]; show rest.length + 2 + 1 ≤ 100; omega⟩
            generalize ds2 ++ [stt ps wh] = dcs at dc
            generalize cs2 = ccs at cc
            refine sw_cons <| s_for2 7 8 12 rfl hN rfl rfl (by show 12 < 13; decide) ?_
            refine sw_cons <| s_forF rfl <| iw_r1 T.range <| ew_callB T.len bt_len <| aw_own 12 rfl <| aw_nil ⟨_, rfl, cw_lenC Gclen hr2 ⟨_, _, _, _, rfl, (cc.1), _, rfl, by omega, (by have := cc.2.2; omega), _, rfl, by omega, (by have := cc.2.2; omega), ?_⟩⟩
            rw [show (((ccs.length - 1 : Nat) : Int)).toNat = ccs.length - 1 by omega]
            refine ⟨fun i S => ∃ ds : List Dt, S = [.im (.scr ns), .no, .own p .src, .im (.shop ps), .no, .im (.lst ((a :: b :: rest).map Dt.int)), .no, .no, .own d (.cart dx dl dcs), .im (.int wh), .no, .no, .own c (.cart cx cl ds)] ∧ ds.length + i = ccs.length ∧ ds.head? = some (stt ps 0), ⟨_, by walk_at "fg", ccs, rfl, rfl, cc.2.1⟩, fun i x S' hxi hP => ?_, fun S' hP => ?_⟩
            · obtain ⟨ds, rfl, dle, dh⟩ := hP
              have hi : i < ccs.length - 1 := by have := (List.getElem?_eq_some_iff.mp hxi).1; rwa [rangeD_len] at this
              have hd2 : 2 ≤ ds.length := by omega
              refine gw_name 6 hN ?_
              refine sw_cons <| s_if <| tw_cmp <| ew_meth0C 12 TC.carC Gundo hr1 rfl ⟨rfl, hd2, ew_non <| ow_notN ⟨_, rfl, nofun, fun _ => sw_nil <| sw_nil ?_⟩⟩
              exact ⟨[.im (.scr ns), .no, .own p .src, .im (.shop ps), .no, .im (.lst ((a :: b :: rest).map Dt.int)), .no, .no, .own d (.cart dx dl dcs), .im (.int wh), .no, .no, .own c (.cart cx cl ds.dropLast)], by walk_at "fg", ds.dropLast, rfl, by rw [List.length_dropLast]; omega, by rw [head_drop hd2]; exact dh⟩
            · obtain ⟨ds, rfl, dle, dh⟩ := hP
              rw [rangeD_len] at dle
              have ed : ds = [stt ps 0] := one_head (by omega) dh
              subst ed
              refine sw_cons <| s_ifF (tw_w <| ww_or <| tw_not <| tw_eqCF 12 Gceq hr3 rfl <| ef_makeC MC hr3 <| ew_name 3 rfl ⟨ps, rfl, fun x dx2 l2 => ⟨x, dx2, l2, _, _, rfl, rfl, ⟨_, _, _, _, _, _, _, _, ps, ps, 0, 0, rfl, rfl, rfl, _, rfl, _, rfl, (fun h => by simp at h), fun _ => ?_⟩⟩⟩) ?_
              · refine ww_or <| tw_cmp <| ew_meth0C 12 TC.carC Gtotal hr2 rfl ⟨ps, 0, rfl, rfl, okS, by decide, ew_int <| ow_neI ⟨_, rfl, (fun h => by rw [show (0 : Int).toNat = 0 from rfl, pr_zero] at h; simp at h), fun _ => ?_⟩⟩
                refine ww_or <| tw_cmp <| ew_meth0C 12 TC.carC Gextra hr3 rfl ⟨ps, 0, rfl, rfl, okS, by decide, fun r r1 r2 => ew_int <| ow_neI ⟨_, rfl, (fun h => by rw [most_zero okS r1 r2] at h; simp at h), fun _ => ?_⟩⟩
                exact ww_one <| tw_cmp <| ew_callB T.len bt_len <| aw_own 12 rfl <| aw_nil ⟨_, rfl, cw_lenC Gclen hr2 ⟨_, _, _, _, rfl, (by show 1 ≤ 1; decide), _, rfl, (by show (0 : Int) ≤ 0; decide), (by show (0 : Int) < 2 ^ 63; decide), ew_int <| ow_neI ⟨_, rfl, rfl, rfl⟩⟩⟩
              refine sw_nil <| sw_nil ⟨_, (by show 12 < 13; decide), rfl, ?_⟩
              refine sw_cons <| s_forF rfl <| iw_r1 T.range <| ew_callB T.len bt_len <| aw_own 12 rfl <| aw_nil ⟨_, rfl, cw_lenC Gclen hr2 ⟨_, _, _, _, rfl, (dc.1), _, rfl, by omega, (by have := dc.2.2; omega), _, rfl, by omega, (by have := dc.2.2; omega), ?_⟩⟩
              rw [show (((dcs.length - 1 : Nat) : Int)).toNat = dcs.length - 1 by omega]
              refine ⟨fun i S => ∃ ds : List Dt, S = [.im (.scr ns), .no, .own p .src, .im (.shop ps), .no, .im (.lst ((a :: b :: rest).map Dt.int)), .no, .no, .no, .im (.int wh), .no, .no, .own d (.cart dx dl ds)] ∧ ds.length + i = dcs.length ∧ ds.head? = some (stt ps 0), ⟨_, by walk_at "fg", dcs, rfl, rfl, dc.2.1⟩, fun i x S' hxi hP => ?_, fun S' hP => ?_⟩
              · obtain ⟨ds, rfl, dle, dh⟩ := hP
                have hi : i < dcs.length - 1 := by have := (List.getElem?_eq_some_iff.mp hxi).1; rwa [rangeD_len] at this
                have hd2 : 2 ≤ ds.length := by omega
                refine gw_name 6 hN ?_
                refine sw_cons <| s_if <| tw_cmp <| ew_meth0C 12 TC.carC Gundo hr1 rfl ⟨rfl, hd2, ew_non <| ow_notN ⟨_, rfl, nofun, fun _ => sw_nil <| sw_nil ?_⟩⟩
                exact ⟨[.im (.scr ns), .no, .own p .src, .im (.shop ps), .no, .im (.lst ((a :: b :: rest).map Dt.int)), .no, .no, .no, .im (.int wh), .no, .no, .own d (.cart dx dl ds.dropLast)], by walk_at "fg", ds.dropLast, rfl, by rw [List.length_dropLast]; omega, by rw [head_drop hd2]; exact dh⟩
              · obtain ⟨ds, rfl, dle, dh⟩ := hP
                rw [rangeD_len] at dle
                have ed : ds = [stt ps 0] := one_head (by omega) dh
                subst ed
                refine sw_cons <| s_ifF (tw_w <| ww_or <| tw_not <| tw_eqCF 12 Gceq hr3 rfl <| ef_makeC MC hr3 <| ew_name 3 rfl ⟨ps, rfl, fun x dx2 l2 => ⟨x, dx2, l2, _, _, rfl, rfl, ⟨_, _, _, _, _, _, _, _, ps, ps, 0, 0, rfl, rfl, rfl, _, rfl, _, rfl, (fun h => by simp at h), fun _ => ?_⟩⟩⟩) ?_
                · refine ww_or <| tw_cmp <| ew_meth0C 12 TC.carC Gtotal hr2 rfl ⟨ps, 0, rfl, rfl, okS, by decide, ew_int <| ow_neI ⟨_, rfl, (fun h => by rw [show (0 : Int).toNat = 0 from rfl, pr_zero] at h; simp at h), fun _ => ?_⟩⟩
                  refine ww_or <| tw_cmp <| ew_meth0C 12 TC.carC Gextra hr3 rfl ⟨ps, 0, rfl, rfl, okS, by decide, fun r r1 r2 => ew_int <| ow_neI ⟨_, rfl, (fun h => by rw [most_zero okS r1 r2] at h; simp at h), fun _ => ?_⟩⟩
                  exact ww_one <| tw_cmp <| ew_callB T.len bt_len <| aw_own 12 rfl <| aw_nil ⟨_, rfl, cw_lenC Gclen hr2 ⟨_, _, _, _, rfl, (by show 1 ≤ 1; decide), _, rfl, (by show (0 : Int) ≤ 0; decide), (by show (0 : Int) < 2 ^ 63; decide), ew_int <| ow_neI ⟨_, rfl, rfl, rfl⟩⟩⟩
                refine sw_nil <| sw_nil <| sw_nil ⟨_, by walk_at "fg", rfl⟩
          · refine ww_one <| tw_cmp <| ew_methC 8 TC.carC Gmove hr3 rfl <| aw_im <| ew_name 3 rfl <| aw_nil ⟨_, ds2, rfl, rfl, ps, ps, wh, rfl, dz2, okS, wsb.1, by omega, ?_⟩
            refine ew_ef <| ef_callO Gcall hr3 <| ew_name 3 rfl ⟨ps, rfl, aw_im <| ew_name 9 rfl <| aw_nil ⟨List.nodup_nil, ps, wh, rfl, okS, wsb.1, by omega, _, rfl, ow_neI ⟨_, rfl, (fun h => by simp at h), fun _ => sw_nil ?_⟩⟩⟩
            have cc : 1 ≤ cs2.length ∧ cs2.head? = some (stt ps 0) ∧ cs2.length ≤ 100 := ⟨by omega, ch2, by omega⟩
            have dc : 1 ≤ (ds2 ++ [stt ps wh]).length ∧ (ds2 ++ [stt ps wh]).head? = some (stt ps 0) ∧ (ds2 ++ [stt ps wh]).length ≤ 100 := ⟨by simp, by rw [List.head?_append, dh2]; rfl, by rw [List.length_append, dl2]; show rest.length + 2 + 1 ≤ 100; omega⟩
            generalize ds2 ++ [stt ps wh] = dcs at dc
            generalize cs2 = ccs at cc
            refine sw_cons <| s_for2 7 8 12 rfl hN rfl rfl (by show 12 < 13; decide) ?_
            refine sw_cons <| s_forF rfl <| iw_r1 T.range <| ew_callB T.len bt_len <| aw_own 12 rfl <| aw_nil ⟨_, rfl, cw_lenC Gclen hr2 ⟨_, _, _, _, rfl, (cc.1), _, rfl, by omega, (by have := cc.2.2; omega), _, rfl, by omega, (by have := cc.2.2; omega), ?_⟩⟩
            rw [show (((ccs.length - 1 : Nat) : Int)).toNat = ccs.length - 1 by omega]
            refine ⟨fun i S => ∃ ds : List Dt, S = [.im (.scr ns), .no, .own p .src, .im (.shop ps), .no, .im (.lst ((a :: b :: rest).map Dt.int)), .no, .no, .own d (.cart dx dl dcs), .im (.int wh), .no, .no, .own c (.cart cx cl ds)] ∧ ds.length + i = ccs.length ∧ ds.head? = some (stt ps 0), ⟨_, by walk_at "fg", ccs, rfl, rfl, cc.2.1⟩, fun i x S' hxi hP => ?_, fun S' hP => ?_⟩
            · obtain ⟨ds, rfl, dle, dh⟩ := hP
              have hi : i < ccs.length - 1 := by have := (List.getElem?_eq_some_iff.mp hxi).1; rwa [rangeD_len] at this
              have hd2 : 2 ≤ ds.length := by omega
              refine gw_name 6 hN ?_
              refine sw_cons <| s_if <| tw_cmp <| ew_meth0C 12 TC.carC Gundo hr1 rfl ⟨rfl, hd2, ew_non <| ow_notN ⟨_, rfl, nofun, fun _ => sw_nil <| sw_nil ?_⟩⟩
              exact ⟨[.im (.scr ns), .no, .own p .src, .im (.shop ps), .no, .im (.lst ((a :: b :: rest).map Dt.int)), .no, .no, .own d (.cart dx dl dcs), .im (.int wh), .no, .no, .own c (.cart cx cl ds.dropLast)], by walk_at "fg", ds.dropLast, rfl, by rw [List.length_dropLast]; omega, by rw [head_drop hd2]; exact dh⟩
            · obtain ⟨ds, rfl, dle, dh⟩ := hP
              rw [rangeD_len] at dle
              have ed : ds = [stt ps 0] := one_head (by omega) dh
              subst ed
              refine sw_cons <| s_ifF (tw_w <| ww_or <| tw_not <| tw_eqCF 12 Gceq hr3 rfl <| ef_makeC MC hr3 <| ew_name 3 rfl ⟨ps, rfl, fun x dx2 l2 => ⟨x, dx2, l2, _, _, rfl, rfl, ⟨_, _, _, _, _, _, _, _, ps, ps, 0, 0, rfl, rfl, rfl, _, rfl, _, rfl, (fun h => by simp at h), fun _ => ?_⟩⟩⟩) ?_
              · refine ww_or <| tw_cmp <| ew_meth0C 12 TC.carC Gtotal hr2 rfl ⟨ps, 0, rfl, rfl, okS, by decide, ew_int <| ow_neI ⟨_, rfl, (fun h => by rw [show (0 : Int).toNat = 0 from rfl, pr_zero] at h; simp at h), fun _ => ?_⟩⟩
                refine ww_or <| tw_cmp <| ew_meth0C 12 TC.carC Gextra hr3 rfl ⟨ps, 0, rfl, rfl, okS, by decide, fun r r1 r2 => ew_int <| ow_neI ⟨_, rfl, (fun h => by rw [most_zero okS r1 r2] at h; simp at h), fun _ => ?_⟩⟩
                exact ww_one <| tw_cmp <| ew_callB T.len bt_len <| aw_own 12 rfl <| aw_nil ⟨_, rfl, cw_lenC Gclen hr2 ⟨_, _, _, _, rfl, (by show 1 ≤ 1; decide), _, rfl, (by show (0 : Int) ≤ 0; decide), (by show (0 : Int) < 2 ^ 63; decide), ew_int <| ow_neI ⟨_, rfl, rfl, rfl⟩⟩⟩
              refine sw_nil <| sw_nil ⟨_, (by show 12 < 13; decide), rfl, ?_⟩
              refine sw_cons <| s_forF rfl <| iw_r1 T.range <| ew_callB T.len bt_len <| aw_own 12 rfl <| aw_nil ⟨_, rfl, cw_lenC Gclen hr2 ⟨_, _, _, _, rfl, (dc.1), _, rfl, by omega, (by have := dc.2.2; omega), _, rfl, by omega, (by have := dc.2.2; omega), ?_⟩⟩
              rw [show (((dcs.length - 1 : Nat) : Int)).toNat = dcs.length - 1 by omega]
              refine ⟨fun i S => ∃ ds : List Dt, S = [.im (.scr ns), .no, .own p .src, .im (.shop ps), .no, .im (.lst ((a :: b :: rest).map Dt.int)), .no, .no, .no, .im (.int wh), .no, .no, .own d (.cart dx dl ds)] ∧ ds.length + i = dcs.length ∧ ds.head? = some (stt ps 0), ⟨_, by walk_at "fg", dcs, rfl, rfl, dc.2.1⟩, fun i x S' hxi hP => ?_, fun S' hP => ?_⟩
              · obtain ⟨ds, rfl, dle, dh⟩ := hP
                have hi : i < dcs.length - 1 := by have := (List.getElem?_eq_some_iff.mp hxi).1; rwa [rangeD_len] at this
                have hd2 : 2 ≤ ds.length := by omega
                refine gw_name 6 hN ?_
                refine sw_cons <| s_if <| tw_cmp <| ew_meth0C 12 TC.carC Gundo hr1 rfl ⟨rfl, hd2, ew_non <| ow_notN ⟨_, rfl, nofun, fun _ => sw_nil <| sw_nil ?_⟩⟩
                exact ⟨[.im (.scr ns), .no, .own p .src, .im (.shop ps), .no, .im (.lst ((a :: b :: rest).map Dt.int)), .no, .no, .no, .im (.int wh), .no, .no, .own d (.cart dx dl ds.dropLast)], by walk_at "fg", ds.dropLast, rfl, by rw [List.length_dropLast]; omega, by rw [head_drop hd2]; exact dh⟩
              · obtain ⟨ds, rfl, dle, dh⟩ := hP
                rw [rangeD_len] at dle
                have ed : ds = [stt ps 0] := one_head (by omega) dh
                subst ed
                refine sw_cons <| s_ifF (tw_w <| ww_or <| tw_not <| tw_eqCF 12 Gceq hr3 rfl <| ef_makeC MC hr3 <| ew_name 3 rfl ⟨ps, rfl, fun x dx2 l2 => ⟨x, dx2, l2, _, _, rfl, rfl, ⟨_, _, _, _, _, _, _, _, ps, ps, 0, 0, rfl, rfl, rfl, _, rfl, _, rfl, (fun h => by simp at h), fun _ => ?_⟩⟩⟩) ?_
                · refine ww_or <| tw_cmp <| ew_meth0C 12 TC.carC Gtotal hr2 rfl ⟨ps, 0, rfl, rfl, okS, by decide, ew_int <| ow_neI ⟨_, rfl, (fun h => by rw [show (0 : Int).toNat = 0 from rfl, pr_zero] at h; simp at h), fun _ => ?_⟩⟩
                  refine ww_or <| tw_cmp <| ew_meth0C 12 TC.carC Gextra hr3 rfl ⟨ps, 0, rfl, rfl, okS, by decide, fun r r1 r2 => ew_int <| ow_neI ⟨_, rfl, (fun h => by rw [most_zero okS r1 r2] at h; simp at h), fun _ => ?_⟩⟩
                  exact ww_one <| tw_cmp <| ew_callB T.len bt_len <| aw_own 12 rfl <| aw_nil ⟨_, rfl, cw_lenC Gclen hr2 ⟨_, _, _, _, rfl, (by show 1 ≤ 1; decide), _, rfl, (by show (0 : Int) ≤ 0; decide), (by show (0 : Int) < 2 ^ 63; decide), ew_int <| ow_neI ⟨_, rfl, rfl, rfl⟩⟩⟩
                refine sw_nil <| sw_nil <| sw_nil ⟨_, by walk_at "fg", rfl⟩
    · subst hP
      have eN : neededOf [(7, 3)] = [(7, 3)] := by decide +kernel
      have ok1 := shop_lit (l := [(7, 3)]) (by decide) (by decide) eN
      have b1 : pr [(7, 3)] 1 = 3 := by have := priceOf_eq ok1 (n := 1) (by decide); rw [show (1 : Int).toNat = 1 from rfl] at this; rw [← this]; decide +kernel
      refine sw_cons <| s_ret <| ef_ew <| ew_cmp <| ew_methCF TC.carC Gwant hr3 <| ef_makeC MC hr3 <| ew_make M hr4 <| aw_im <| ew_tup <| aw_im <| ew_int <| aw_im <| ew_int <| aw_nil ⟨_, rfl, (by decide), aw_nil ⟨[(7, 3)], rfl, (by decide), oks_ok (by decide), (by decide), ?_⟩⟩
      rw [eN]
      refine ⟨_, rfl, fun x dx l => ⟨x, dx, l, _, rfl, fun Fr' => aw_im <| ew_int <| aw_nil ⟨_, rfl, [1], _, 0, rfl, (by decide), (by decide), ok1, rfl, by decide, (by show 1 < 100000; decide), ?_⟩⟩⟩
      rw [show (0 : Int) + [1].sum = 1 from rfl, show (1 : Int).toNat = 1 from rfl, b1]
      exact ew_int <| ow_eqI ⟨trivial, q⟩

end
section
theorem all_mk {l : PySem.W.OpenLaw} {w : World} {K : PySem.W.Frag} {h : Heap} {mg : Str → Option Value} {fa C : Addr} (X : K.In h) (G : h.Ns mainGlobals mg) (hfa : mg "law" = some (.ref fa))
    {f_is_between : Addr} {od_is_between an_is_between : Option Addr} {sl_is_between : Array (Option Value)} {oc_is_between kV_is_between dc_is_between pm_is_between cd_is_between ct_is_between : Value}
    {f_is_pack : Addr} {od_is_pack an_is_pack : Option Addr} {sl_is_pack : Array (Option Value)} {oc_is_pack kV_is_pack dc_is_pack pm_is_pack cd_is_pack ct_is_pack : Value}
    {f_prices_by : Addr} {od_prices_by an_prices_by : Option Addr} {sl_prices_by : Array (Option Value)} {oc_prices_by kV_prices_by dc_prices_by pm_prices_by cd_prices_by ct_prices_by : Value}
    {f_needed_of : Addr} {od_needed_of an_needed_of : Option Addr} {sl_needed_of : Array (Option Value)} {oc_needed_of kV_needed_of dc_needed_of pm_needed_of cd_needed_of ct_needed_of : Value}
    {f_best_pack : Addr} {od_best_pack an_best_pack : Option Addr} {sl_best_pack : Array (Option Value)} {oc_best_pack kV_best_pack dc_best_pack pm_best_pack cd_best_pack ct_best_pack : Value}
    {f_init : Addr} {od_init an_init : Option Addr} {sl_init : Array (Option Value)} {oc_init kV_init dc_init pm_init cd_init ct_init : Value}
    {f_price : Addr} {od_price an_price : Option Addr} {sl_price : Array (Option Value)} {oc_price kV_price dc_price pm_price cd_price ct_price : Value}
    {f_need_number : Addr} {od_need_number an_need_number : Option Addr} {sl_need_number : Array (Option Value)} {oc_need_number kV_need_number dc_need_number pm_need_number cd_need_number ct_need_number : Value}
    {f_need_shop : Addr} {od_need_shop an_need_shop : Option Addr} {sl_need_shop : Array (Option Value)} {oc_need_shop kV_need_shop dc_need_shop pm_need_shop cd_need_shop ct_need_shop : Value}
    {f_call : Addr} {od_call an_call : Option Addr} {sl_call : Array (Option Value)} {oc_call kV_call dc_call pm_call cd_call ct_call : Value}
    {f_or : Addr} {od_or an_or : Option Addr} {sl_or : Array (Option Value)} {oc_or kV_or dc_or pm_or cd_or ct_or : Value}
    {f_eq : Addr} {od_eq an_eq : Option Addr} {sl_eq : Array (Option Value)} {oc_eq kV_eq dc_eq pm_eq cd_eq ct_eq : Value}
    {f_largest_for : Addr} {od_largest_for an_largest_for : Option Addr} {sl_largest_for : Array (Option Value)} {oc_largest_for kV_largest_for dc_largest_for pm_largest_for cd_largest_for ct_largest_for : Value}
    {f_most_pieces : Addr} {od_most_pieces an_most_pieces : Option Addr} {sl_most_pieces : Array (Option Value)} {oc_most_pieces kV_most_pieces dc_most_pieces pm_most_pieces cd_most_pieces ct_most_pieces : Value}
    {f_law_source : Addr} {od_law_source an_law_source : Option Addr} {sl_law_source : Array (Option Value)} {oc_law_source kV_law_source dc_law_source pm_law_source cd_law_source ct_law_source : Value}
    {f_law_draw : Addr} {od_law_draw an_law_draw : Option Addr} {sl_law_draw : Array (Option Value)} {oc_law_draw kV_law_draw dc_law_draw pm_law_draw cd_law_draw ct_law_draw : Value}
    {f_law_choice : Addr} {od_law_choice an_law_choice : Option Addr} {sl_law_choice : Array (Option Value)} {oc_law_choice kV_law_choice dc_law_choice pm_law_choice cd_law_choice ct_law_choice : Value}
    {f_law_packs : Addr} {od_law_packs an_law_packs : Option Addr} {sl_law_packs : Array (Option Value)} {oc_law_packs kV_law_packs dc_law_packs pm_law_packs cd_law_packs ct_law_packs : Value}
    {f_law_shop : Addr} {od_law_shop an_law_shop : Option Addr} {sl_law_shop : Array (Option Value)} {oc_law_shop kV_law_shop dc_law_shop pm_law_shop cd_law_shop ct_law_shop : Value}
    {f_Cart_init : Addr} {od_Cart_init an_Cart_init : Option Addr} {sl_Cart_init : Array (Option Value)} {oc_Cart_init kV_Cart_init dc_Cart_init pm_Cart_init cd_Cart_init ct_Cart_init : Value}
    {f_Cart_total : Addr} {od_Cart_total an_Cart_total : Option Addr} {sl_Cart_total : Array (Option Value)} {oc_Cart_total kV_Cart_total dc_Cart_total pm_Cart_total cd_Cart_total ct_Cart_total : Value}
    {f_Cart_wished : Addr} {od_Cart_wished an_Cart_wished : Option Addr} {sl_Cart_wished : Array (Option Value)} {oc_Cart_wished kV_Cart_wished dc_Cart_wished pm_Cart_wished cd_Cart_wished ct_Cart_wished : Value}
    {f_Cart_extra : Addr} {od_Cart_extra an_Cart_extra : Option Addr} {sl_Cart_extra : Array (Option Value)} {oc_Cart_extra kV_Cart_extra dc_Cart_extra pm_Cart_extra cd_Cart_extra ct_Cart_extra : Value}
    {f_Cart_move : Addr} {od_Cart_move an_Cart_move : Option Addr} {sl_Cart_move : Array (Option Value)} {oc_Cart_move kV_Cart_move dc_Cart_move pm_Cart_move cd_Cart_move ct_Cart_move : Value}
    {f_Cart_undo : Addr} {od_Cart_undo an_Cart_undo : Option Addr} {sl_Cart_undo : Array (Option Value)} {oc_Cart_undo kV_Cart_undo dc_Cart_undo pm_Cart_undo cd_Cart_undo ct_Cart_undo : Value}
    {f_Cart_want : Addr} {od_Cart_want an_Cart_want : Option Addr} {sl_Cart_want : Array (Option Value)} {oc_Cart_want kV_Cart_want dc_Cart_want pm_Cart_want cd_Cart_want ct_Cart_want : Value}
    {f_Cart_len : Addr} {od_Cart_len an_Cart_len : Option Addr} {sl_Cart_len : Array (Option Value)} {oc_Cart_len kV_Cart_len dc_Cart_len pm_Cart_len cd_Cart_len ct_Cart_len : Value}
    {f_Cart_eq : Addr} {od_Cart_eq an_Cart_eq : Option Addr} {sl_Cart_eq : Array (Option Value)} {oc_Cart_eq kV_Cart_eq dc_Cart_eq pm_Cart_eq cd_Cart_eq ct_Cart_eq : Value}
    {f_law : Addr} {od_law an_law : Option Addr} {sl_law : Array (Option Value)} {oc_law kV_law dc_law pm_law cd_law ct_law : Value}
    {t_SIZE : Tok}
    {t_PRICE : Tok}
    {t_PACKS : Tok}
    {t_NUMBER : Tok}
    {Dc : Addr}
    {t_WISHED : Tok}
    (aC : PySem.W.nsIn K mainGlobals "PriceList" = some (some (.ref C)))
    (aD : PySem.W.nsIn K mainGlobals "Cart" = some (some (.ref Dc)))
    (a_is_between : PySem.W.nsIn K mainGlobals "is_between" = some (some (.ref f_is_between)))
    (l_is_between : K.lookup f_is_between = some ⟨oc_is_between, od_is_between, .func (PySem.W.fnOf "is_between" "is_between" (defArgs s_is_between) (defBody s_is_between) (defScope s_is_between) .none kV_is_between dc_is_between pm_is_between an_is_between cd_is_between ct_is_between), sl_is_between⟩)
    (c_is_between : PySem.W.codeIn K cd_is_between "is_between" = true)
    (k_is_between : PySem.W.keepIn K (.ref f_is_between) = true)
    (a_is_pack : PySem.W.nsIn K mainGlobals "is_pack" = some (some (.ref f_is_pack)))
    (l_is_pack : K.lookup f_is_pack = some ⟨oc_is_pack, od_is_pack, .func (PySem.W.fnOf "is_pack" "is_pack" (defArgs s_is_pack) (defBody s_is_pack) (defScope s_is_pack) .none kV_is_pack dc_is_pack pm_is_pack an_is_pack cd_is_pack ct_is_pack), sl_is_pack⟩)
    (c_is_pack : PySem.W.codeIn K cd_is_pack "is_pack" = true)
    (k_is_pack : PySem.W.keepIn K (.ref f_is_pack) = true)
    (a_prices_by : PySem.W.nsIn K mainGlobals "prices_by" = some (some (.ref f_prices_by)))
    (l_prices_by : K.lookup f_prices_by = some ⟨oc_prices_by, od_prices_by, .func (PySem.W.fnOf "prices_by" "prices_by" (defArgs s_prices_by) (defBody s_prices_by) (defScope s_prices_by) .none kV_prices_by dc_prices_by pm_prices_by an_prices_by cd_prices_by ct_prices_by), sl_prices_by⟩)
    (c_prices_by : PySem.W.codeIn K cd_prices_by "prices_by" = true)
    (k_prices_by : PySem.W.keepIn K (.ref f_prices_by) = true)
    (a_needed_of : PySem.W.nsIn K mainGlobals "needed_of" = some (some (.ref f_needed_of)))
    (l_needed_of : K.lookup f_needed_of = some ⟨oc_needed_of, od_needed_of, .func (PySem.W.fnOf "needed_of" "needed_of" (defArgs s_needed_of) (defBody s_needed_of) (defScope s_needed_of) .none kV_needed_of dc_needed_of pm_needed_of an_needed_of cd_needed_of ct_needed_of), sl_needed_of⟩)
    (c_needed_of : PySem.W.codeIn K cd_needed_of "needed_of" = true)
    (k_needed_of : PySem.W.keepIn K (.ref f_needed_of) = true)
    (a_best_pack : PySem.W.nsIn K mainGlobals "best_pack" = some (some (.ref f_best_pack)))
    (l_best_pack : K.lookup f_best_pack = some ⟨oc_best_pack, od_best_pack, .func (PySem.W.fnOf "best_pack" "best_pack" (defArgs s_best_pack) (defBody s_best_pack) (defScope s_best_pack) .none kV_best_pack dc_best_pack pm_best_pack an_best_pack cd_best_pack ct_best_pack), sl_best_pack⟩)
    (c_best_pack : PySem.W.codeIn K cd_best_pack "best_pack" = true)
    (k_best_pack : PySem.W.keepIn K (.ref f_best_pack) = true)
    (a_init : PySem.W.findIn K (.ref C) "__init__" = some (some (.ref f_init)))
    (i_init : PySem.W.isFn K (.ref f_init) = true)
    (l_init : K.lookup f_init = some ⟨oc_init, od_init, .func (PySem.W.fnOf "__init__" "PriceList.__init__" (defArgs s_PriceList_init) (defBody s_PriceList_init) (defScope s_PriceList_init) .none kV_init dc_init pm_init an_init cd_init ct_init), sl_init⟩)
    (c_init : PySem.W.codeIn K cd_init "PriceList.__init__" = true)
    (k_init : PySem.W.keepIn K (.ref f_init) = true)
    (a_price : PySem.W.findIn K (.ref C) "price" = some (some (.ref f_price)))
    (i_price : PySem.W.isFn K (.ref f_price) = true)
    (l_price : K.lookup f_price = some ⟨oc_price, od_price, .func (PySem.W.fnOf "price" "PriceList.price" (defArgs s_PriceList_price) (defBody s_PriceList_price) (defScope s_PriceList_price) .none kV_price dc_price pm_price an_price cd_price ct_price), sl_price⟩)
    (c_price : PySem.W.codeIn K cd_price "PriceList.price" = true)
    (k_price : PySem.W.keepIn K (.ref f_price) = true)
    (a_need_number : PySem.W.nsIn K mainGlobals "need_number" = some (some (.ref f_need_number)))
    (l_need_number : K.lookup f_need_number = some ⟨oc_need_number, od_need_number, .func (PySem.W.fnOf "need_number" "need_number" (defArgs s_need_number) (defBody s_need_number) (defScope s_need_number) .none kV_need_number dc_need_number pm_need_number an_need_number cd_need_number ct_need_number), sl_need_number⟩)
    (c_need_number : PySem.W.codeIn K cd_need_number "need_number" = true)
    (k_need_number : PySem.W.keepIn K (.ref f_need_number) = true)
    (a_need_shop : PySem.W.nsIn K mainGlobals "need_shop" = some (some (.ref f_need_shop)))
    (l_need_shop : K.lookup f_need_shop = some ⟨oc_need_shop, od_need_shop, .func (PySem.W.fnOf "need_shop" "need_shop" (defArgs s_need_shop) (defBody s_need_shop) (defScope s_need_shop) .none kV_need_shop dc_need_shop pm_need_shop an_need_shop cd_need_shop ct_need_shop), sl_need_shop⟩)
    (c_need_shop : PySem.W.codeIn K cd_need_shop "need_shop" = true)
    (k_need_shop : PySem.W.keepIn K (.ref f_need_shop) = true)
    (a_call : PySem.W.findIn K (.ref C) "__call__" = some (some (.ref f_call)))
    (i_call : PySem.W.isFn K (.ref f_call) = true)
    (l_call : K.lookup f_call = some ⟨oc_call, od_call, .func (PySem.W.fnOf "__call__" "PriceList.__call__" (defArgs s_PriceList_call) (defBody s_PriceList_call) (defScope s_PriceList_call) .none kV_call dc_call pm_call an_call cd_call ct_call), sl_call⟩)
    (c_call : PySem.W.codeIn K cd_call "PriceList.__call__" = true)
    (k_call : PySem.W.keepIn K (.ref f_call) = true)
    (n_call : PySem.W.fnIn K f_call = true)
    (a_or : PySem.W.findIn K (.ref C) "__or__" = some (some (.ref f_or)))
    (i_or : PySem.W.isFn K (.ref f_or) = true)
    (l_or : K.lookup f_or = some ⟨oc_or, od_or, .func (PySem.W.fnOf "__or__" "PriceList.__or__" (defArgs s_PriceList_or) (defBody s_PriceList_or) (defScope s_PriceList_or) .none kV_or dc_or pm_or an_or cd_or ct_or), sl_or⟩)
    (c_or : PySem.W.codeIn K cd_or "PriceList.__or__" = true)
    (k_or : PySem.W.keepIn K (.ref f_or) = true)
    (a_eq : PySem.W.findIn K (.ref C) "__eq__" = some (some (.ref f_eq)))
    (i_eq : PySem.W.isFn K (.ref f_eq) = true)
    (l_eq : K.lookup f_eq = some ⟨oc_eq, od_eq, .func (PySem.W.fnOf "__eq__" "PriceList.__eq__" (defArgs s_PriceList_eq) (defBody s_PriceList_eq) (defScope s_PriceList_eq) .none kV_eq dc_eq pm_eq an_eq cd_eq ct_eq), sl_eq⟩)
    (c_eq : PySem.W.codeIn K cd_eq "PriceList.__eq__" = true)
    (k_eq : PySem.W.keepIn K (.ref f_eq) = true)
    (a_largest_for : PySem.W.nsIn K mainGlobals "largest_for" = some (some (.ref f_largest_for)))
    (l_largest_for : K.lookup f_largest_for = some ⟨oc_largest_for, od_largest_for, .func (PySem.W.fnOf "largest_for" "largest_for" (defArgs s_largest_for) (defBody s_largest_for) (defScope s_largest_for) .none kV_largest_for dc_largest_for pm_largest_for an_largest_for cd_largest_for ct_largest_for), sl_largest_for⟩)
    (c_largest_for : PySem.W.codeIn K cd_largest_for "largest_for" = true)
    (k_largest_for : PySem.W.keepIn K (.ref f_largest_for) = true)
    (a_most_pieces : PySem.W.nsIn K mainGlobals "most_pieces" = some (some (.ref f_most_pieces)))
    (l_most_pieces : K.lookup f_most_pieces = some ⟨oc_most_pieces, od_most_pieces, .func (PySem.W.fnOf "most_pieces" "most_pieces" (defArgs s_most_pieces) (defBody s_most_pieces) (defScope s_most_pieces) .none kV_most_pieces dc_most_pieces pm_most_pieces an_most_pieces cd_most_pieces ct_most_pieces), sl_most_pieces⟩)
    (c_most_pieces : PySem.W.codeIn K cd_most_pieces "most_pieces" = true)
    (k_most_pieces : PySem.W.keepIn K (.ref f_most_pieces) = true)
    (a_law_source : PySem.W.nsIn K mainGlobals "_law_source" = some (some (.ref f_law_source)))
    (l_law_source : K.lookup f_law_source = some ⟨oc_law_source, od_law_source, .func (PySem.W.fnOf "_law_source" "_law_source" (defArgs s_law_source) (defBody s_law_source) (defScope s_law_source) .none kV_law_source dc_law_source pm_law_source an_law_source cd_law_source ct_law_source), sl_law_source⟩)
    (c_law_source : PySem.W.codeIn K cd_law_source "_law_source" = true)
    (k_law_source : PySem.W.keepIn K (.ref f_law_source) = true)
    (a_law_draw : PySem.W.nsIn K mainGlobals "_law_draw" = some (some (.ref f_law_draw)))
    (l_law_draw : K.lookup f_law_draw = some ⟨oc_law_draw, od_law_draw, .func (PySem.W.fnOf "_law_draw" "_law_draw" (defArgs s_law_draw) (defBody s_law_draw) (defScope s_law_draw) .none kV_law_draw dc_law_draw pm_law_draw an_law_draw cd_law_draw ct_law_draw), sl_law_draw⟩)
    (c_law_draw : PySem.W.codeIn K cd_law_draw "_law_draw" = true)
    (k_law_draw : PySem.W.keepIn K (.ref f_law_draw) = true)
    (a_law_choice : PySem.W.nsIn K mainGlobals "_law_choice" = some (some (.ref f_law_choice)))
    (l_law_choice : K.lookup f_law_choice = some ⟨oc_law_choice, od_law_choice, .func (PySem.W.fnOf "_law_choice" "_law_choice" (defArgs s_law_choice) (defBody s_law_choice) (defScope s_law_choice) .none kV_law_choice dc_law_choice pm_law_choice an_law_choice cd_law_choice ct_law_choice), sl_law_choice⟩)
    (c_law_choice : PySem.W.codeIn K cd_law_choice "_law_choice" = true)
    (k_law_choice : PySem.W.keepIn K (.ref f_law_choice) = true)
    (a_law_packs : PySem.W.nsIn K mainGlobals "_law_packs" = some (some (.ref f_law_packs)))
    (l_law_packs : K.lookup f_law_packs = some ⟨oc_law_packs, od_law_packs, .func (PySem.W.fnOf "_law_packs" "_law_packs" (defArgs s_law_packs) (defBody s_law_packs) (defScope s_law_packs) .none kV_law_packs dc_law_packs pm_law_packs an_law_packs cd_law_packs ct_law_packs), sl_law_packs⟩)
    (c_law_packs : PySem.W.codeIn K cd_law_packs "_law_packs" = true)
    (k_law_packs : PySem.W.keepIn K (.ref f_law_packs) = true)
    (a_law_shop : PySem.W.nsIn K mainGlobals "_law_shop" = some (some (.ref f_law_shop)))
    (l_law_shop : K.lookup f_law_shop = some ⟨oc_law_shop, od_law_shop, .func (PySem.W.fnOf "_law_shop" "_law_shop" (defArgs s_law_shop) (defBody s_law_shop) (defScope s_law_shop) .none kV_law_shop dc_law_shop pm_law_shop an_law_shop cd_law_shop ct_law_shop), sl_law_shop⟩)
    (c_law_shop : PySem.W.codeIn K cd_law_shop "_law_shop" = true)
    (k_law_shop : PySem.W.keepIn K (.ref f_law_shop) = true)
    (a_Cart_init : PySem.W.findIn K (.ref Dc) "__init__" = some (some (.ref f_Cart_init)))
    (i_Cart_init : PySem.W.isFn K (.ref f_Cart_init) = true)
    (l_Cart_init : K.lookup f_Cart_init = some ⟨oc_Cart_init, od_Cart_init, .func (PySem.W.fnOf "__init__" "Cart.__init__" (defArgs s_Cart_init) (defBody s_Cart_init) (defScope s_Cart_init) .none kV_Cart_init dc_Cart_init pm_Cart_init an_Cart_init cd_Cart_init ct_Cart_init), sl_Cart_init⟩)
    (c_Cart_init : PySem.W.codeIn K cd_Cart_init "Cart.__init__" = true)
    (k_Cart_init : PySem.W.keepIn K (.ref f_Cart_init) = true)
    (a_Cart_total : PySem.W.findIn K (.ref Dc) "total" = some (some (.ref f_Cart_total)))
    (i_Cart_total : PySem.W.isFn K (.ref f_Cart_total) = true)
    (l_Cart_total : K.lookup f_Cart_total = some ⟨oc_Cart_total, od_Cart_total, .func (PySem.W.fnOf "total" "Cart.total" (defArgs s_Cart_total) (defBody s_Cart_total) (defScope s_Cart_total) .none kV_Cart_total dc_Cart_total pm_Cart_total an_Cart_total cd_Cart_total ct_Cart_total), sl_Cart_total⟩)
    (c_Cart_total : PySem.W.codeIn K cd_Cart_total "Cart.total" = true)
    (k_Cart_total : PySem.W.keepIn K (.ref f_Cart_total) = true)
    (a_Cart_wished : PySem.W.findIn K (.ref Dc) "wished" = some (some (.ref f_Cart_wished)))
    (i_Cart_wished : PySem.W.isFn K (.ref f_Cart_wished) = true)
    (l_Cart_wished : K.lookup f_Cart_wished = some ⟨oc_Cart_wished, od_Cart_wished, .func (PySem.W.fnOf "wished" "Cart.wished" (defArgs s_Cart_wished) (defBody s_Cart_wished) (defScope s_Cart_wished) .none kV_Cart_wished dc_Cart_wished pm_Cart_wished an_Cart_wished cd_Cart_wished ct_Cart_wished), sl_Cart_wished⟩)
    (c_Cart_wished : PySem.W.codeIn K cd_Cart_wished "Cart.wished" = true)
    (k_Cart_wished : PySem.W.keepIn K (.ref f_Cart_wished) = true)
    (a_Cart_extra : PySem.W.findIn K (.ref Dc) "extra" = some (some (.ref f_Cart_extra)))
    (i_Cart_extra : PySem.W.isFn K (.ref f_Cart_extra) = true)
    (l_Cart_extra : K.lookup f_Cart_extra = some ⟨oc_Cart_extra, od_Cart_extra, .func (PySem.W.fnOf "extra" "Cart.extra" (defArgs s_Cart_extra) (defBody s_Cart_extra) (defScope s_Cart_extra) .none kV_Cart_extra dc_Cart_extra pm_Cart_extra an_Cart_extra cd_Cart_extra ct_Cart_extra), sl_Cart_extra⟩)
    (c_Cart_extra : PySem.W.codeIn K cd_Cart_extra "Cart.extra" = true)
    (k_Cart_extra : PySem.W.keepIn K (.ref f_Cart_extra) = true)
    (a_Cart_move : PySem.W.findIn K (.ref Dc) "move" = some (some (.ref f_Cart_move)))
    (i_Cart_move : PySem.W.isFn K (.ref f_Cart_move) = true)
    (l_Cart_move : K.lookup f_Cart_move = some ⟨oc_Cart_move, od_Cart_move, .func (PySem.W.fnOf "move" "Cart.move" (defArgs s_Cart_move) (defBody s_Cart_move) (defScope s_Cart_move) .none kV_Cart_move dc_Cart_move pm_Cart_move an_Cart_move cd_Cart_move ct_Cart_move), sl_Cart_move⟩)
    (c_Cart_move : PySem.W.codeIn K cd_Cart_move "Cart.move" = true)
    (k_Cart_move : PySem.W.keepIn K (.ref f_Cart_move) = true)
    (a_Cart_undo : PySem.W.findIn K (.ref Dc) "undo" = some (some (.ref f_Cart_undo)))
    (i_Cart_undo : PySem.W.isFn K (.ref f_Cart_undo) = true)
    (l_Cart_undo : K.lookup f_Cart_undo = some ⟨oc_Cart_undo, od_Cart_undo, .func (PySem.W.fnOf "undo" "Cart.undo" (defArgs s_Cart_undo) (defBody s_Cart_undo) (defScope s_Cart_undo) .none kV_Cart_undo dc_Cart_undo pm_Cart_undo an_Cart_undo cd_Cart_undo ct_Cart_undo), sl_Cart_undo⟩)
    (c_Cart_undo : PySem.W.codeIn K cd_Cart_undo "Cart.undo" = true)
    (k_Cart_undo : PySem.W.keepIn K (.ref f_Cart_undo) = true)
    (a_Cart_want : PySem.W.findIn K (.ref Dc) "want" = some (some (.ref f_Cart_want)))
    (i_Cart_want : PySem.W.isFn K (.ref f_Cart_want) = true)
    (l_Cart_want : K.lookup f_Cart_want = some ⟨oc_Cart_want, od_Cart_want, .func (PySem.W.fnOf "want" "Cart.want" (defArgs s_Cart_want) (defBody s_Cart_want) (defScope s_Cart_want) .none kV_Cart_want dc_Cart_want pm_Cart_want an_Cart_want cd_Cart_want ct_Cart_want), sl_Cart_want⟩)
    (c_Cart_want : PySem.W.codeIn K cd_Cart_want "Cart.want" = true)
    (k_Cart_want : PySem.W.keepIn K (.ref f_Cart_want) = true)
    (a_Cart_len : PySem.W.findIn K (.ref Dc) "__len__" = some (some (.ref f_Cart_len)))
    (i_Cart_len : PySem.W.isFn K (.ref f_Cart_len) = true)
    (l_Cart_len : K.lookup f_Cart_len = some ⟨oc_Cart_len, od_Cart_len, .func (PySem.W.fnOf "__len__" "Cart.__len__" (defArgs s_Cart_len) (defBody s_Cart_len) (defScope s_Cart_len) .none kV_Cart_len dc_Cart_len pm_Cart_len an_Cart_len cd_Cart_len ct_Cart_len), sl_Cart_len⟩)
    (c_Cart_len : PySem.W.codeIn K cd_Cart_len "Cart.__len__" = true)
    (k_Cart_len : PySem.W.keepIn K (.ref f_Cart_len) = true)
    (a_Cart_eq : PySem.W.findIn K (.ref Dc) "__eq__" = some (some (.ref f_Cart_eq)))
    (i_Cart_eq : PySem.W.isFn K (.ref f_Cart_eq) = true)
    (l_Cart_eq : K.lookup f_Cart_eq = some ⟨oc_Cart_eq, od_Cart_eq, .func (PySem.W.fnOf "__eq__" "Cart.__eq__" (defArgs s_Cart_eq) (defBody s_Cart_eq) (defScope s_Cart_eq) .none kV_Cart_eq dc_Cart_eq pm_Cart_eq an_Cart_eq cd_Cart_eq ct_Cart_eq), sl_Cart_eq⟩)
    (c_Cart_eq : PySem.W.codeIn K cd_Cart_eq "Cart.__eq__" = true)
    (k_Cart_eq : PySem.W.keepIn K (.ref f_Cart_eq) = true)
    (a_law : PySem.W.nsIn K mainGlobals "law" = some (some (.ref f_law)))
    (l_law : K.lookup f_law = some ⟨oc_law, od_law, .func (PySem.W.fnOf "law" "law" (defArgs s_law) (defBody s_law) (defScope s_law) .none kV_law dc_law pm_law an_law cd_law ct_law), sl_law⟩)
    (c_law : PySem.W.codeIn K cd_law "law" = true)
    (k_law : PySem.W.keepIn K (.ref f_law) = true)
    (pg : PySem.W.plainGet K C Str.empty = true)
    (hd : PySem.W.hasDictIn K C = true)
    (po : PySem.W.plainOver K C = true)
    (sa : PySem.W.findIn K (.ref C) "__setattr__" = some (some (.builtin "object.__setattr__")))
    (ca : PySem.W.findIn K (.ref C) "__class__" = some (some (.builtin "object.__class__")))
    (cn : PySem.W.specialIn K (.builtin "object.__class__") "__get__" = some (some (.builtin "getset_descriptor.__get__")))
    (ct : PySem.W.takesIn K (.builtin "object.__class__") = some true)
    (cm : PySem.W.mroIn K C (.type "object") = some true)
    (mk : PySem.W.makesIn K C = true)
    (kc : PySem.W.keepIn K (.ref C) = true)
    (nN : PySem.W.findIn K (.ref C) "needed" = some none)
    (nB : PySem.W.findIn K (.ref C) "best" = some none)
    (nK : PySem.W.findIn K (.ref C) "known" = some none)
    (sf : PySem.W.selfFirst K C = true)
    (z_len : PySem.W.nsIn K mainGlobals "len" = some none)
    (z_isinstance : PySem.W.nsIn K mainGlobals "isinstance" = some none)
    (z_int : PySem.W.nsIn K mainGlobals "int" = some none)
    (z_bool : PySem.W.nsIn K mainGlobals "bool" = some none)
    (z_tuple : PySem.W.nsIn K mainGlobals "tuple" = some none)
    (z_list : PySem.W.nsIn K mainGlobals "list" = some none)
    (z_range : PySem.W.nsIn K mainGlobals "range" = some none)
    (z_min : PySem.W.nsIn K mainGlobals "min" = some none)
    (z_max : PySem.W.nsIn K mainGlobals "max" = some none)
    (z_sorted : PySem.W.nsIn K mainGlobals "sorted" = some none)
    (z_set : PySem.W.nsIn K mainGlobals "set" = some none)
    (z_all : PySem.W.nsIn K mainGlobals "all" = some none)
    (z_sum : PySem.W.nsIn K mainGlobals "sum" = some none)
    (z_abs : PySem.W.nsIn K mainGlobals "abs" = some none)
    (z_enumerate : PySem.W.nsIn K mainGlobals "enumerate" = some none)
    (v_SIZE : PySem.W.nsIn K mainGlobals "MOST_SIZE" = some (some (.int 30 t_SIZE)))
    (v_PRICE : PySem.W.nsIn K mainGlobals "MOST_PRICE" = some (some (.int 1000000 t_PRICE)))
    (v_PACKS : PySem.W.nsIn K mainGlobals "MOST_PACKS" = some (some (.int 30 t_PACKS)))
    (v_NUMBER : PySem.W.nsIn K mainGlobals "MOST_NUMBER" = some (some (.int 1000000000000 t_NUMBER)))
    (pgD : PySem.W.plainGet K Dc Str.empty = true)
    (hdD : PySem.W.hasDictIn K Dc = true)
    (poD : PySem.W.plainOver K Dc = true)
    (saD : PySem.W.findIn K (.ref Dc) "__setattr__" = some (some (.builtin "object.__setattr__")))
    (caD : PySem.W.findIn K (.ref Dc) "__class__" = some (some (.builtin "object.__class__")))
    (cmD : PySem.W.mroIn K Dc (.type "object") = some true)
    (mkD : PySem.W.makesIn K Dc = true)
    (kcD : PySem.W.keepIn K (.ref Dc) = true)
    (nSD : PySem.W.findIn K (.ref Dc) "states" = some none)
    (sfD : PySem.W.selfFirst K Dc = true)
    (v_WISHED : PySem.W.nsIn K mainGlobals "MOST_WISHED" = some (some (.int 1000000 t_WISHED)))
    : ∃ fd : FuncData, (∀ (s : Shared) (v : Value), BindsTo s fd ⟨[v], []⟩ [("script", v)]) ∧ ∀ base : Heap, K.In base → base.Ns mainGlobals mg → FnOk l.prog w K mg base CX0 7 fa fd ["script"] (spLaw K) := by
  have e := hfa.symm.trans (PySem.W.mg_of X G a_law)
  cases e
  have T : Txt K mg ⟨C, Dc⟩ := { shC := ⟨⟨⟨pg, hd, po, sa⟩, ca, cn, ct, cm⟩, nN, nB, nK⟩, kS := by simp [PySem.W.kitOne], pl := PySem.W.mg_of X G aC, len := PySem.W.mg_none_of X G z_len, isinstance := PySem.W.mg_none_of X G z_isinstance, int := PySem.W.mg_none_of X G z_int, bool := PySem.W.mg_none_of X G z_bool, tuple := PySem.W.mg_none_of X G z_tuple, list := PySem.W.mg_none_of X G z_list, range := PySem.W.mg_none_of X G z_range, min := PySem.W.mg_none_of X G z_min, max := PySem.W.mg_none_of X G z_max, sorted := PySem.W.mg_none_of X G z_sorted, set := PySem.W.mg_none_of X G z_set, all := PySem.W.mg_none_of X G z_all, sum := PySem.W.mg_none_of X G z_sum, abs := PySem.W.mg_none_of X G z_abs, mSize := ⟨_, PySem.W.mg_of X G v_SIZE⟩, mPrice := ⟨_, PySem.W.mg_of X G v_PRICE⟩, mPacks := ⟨_, PySem.W.mg_of X G v_PACKS⟩, mNumber := ⟨_, PySem.W.mg_of X G v_NUMBER⟩ }
  have X_enumerate : mg "enumerate" = none := PySem.W.mg_none_of X G z_enumerate
  have TC : TxtC K mg ⟨C, Dc⟩ := ⟨⟨⟨⟨pgD, hdD, poD, saD⟩, caD, cn, ct, cmD⟩, nSD⟩, PySem.W.mg_of X G aD, ⟨_, PySem.W.mg_of X G v_WISHED⟩⟩
  have U_is_between := fun_mk (st := s_is_between) l_is_between c_is_between k_is_between
  have b_is_between := U_is_between.binds (ps := ["value", "low", "high"]) fun _ _ _ _ _ _ us hl => match us, hl with | [_, _, _], _ => rfl
  have U_is_pack := fun_mk (st := s_is_pack) l_is_pack c_is_pack k_is_pack
  have b_is_pack := U_is_pack.binds (ps := ["value"]) fun _ _ _ _ _ _ us hl => match us, hl with | [_], _ => rfl
  have U_prices_by := fun_mk (st := s_prices_by) l_prices_by c_prices_by k_prices_by
  have b_prices_by := U_prices_by.binds (ps := ["packs", "most"]) fun _ _ _ _ _ _ us hl => match us, hl with | [_, _], _ => rfl
  have U_needed_of := fun_mk (st := s_needed_of) l_needed_of c_needed_of k_needed_of
  have b_needed_of := U_needed_of.binds (ps := ["packs"]) fun _ _ _ _ _ _ us hl => match us, hl with | [_], _ => rfl
  have U_best_pack := fun_mk (st := s_best_pack) l_best_pack c_best_pack k_best_pack
  have b_best_pack := U_best_pack.binds (ps := ["packs"]) fun _ _ _ _ _ _ us hl => match us, hl with | [_], _ => rfl
  have U_init := fun_mk (st := s_PriceList_init) l_init c_init k_init
  have U_price := fun_mk (st := s_PriceList_price) l_price c_price k_price
  have b_price := U_price.binds (ps := ["self", "number"]) fun _ _ _ _ _ _ us hl => match us, hl with | [_, _], _ => rfl
  have U_need_number := fun_mk (st := s_need_number) l_need_number c_need_number k_need_number
  have b_need_number := U_need_number.binds (ps := ["number", "low", "high"]) fun _ _ _ _ _ _ us hl => match us, hl with | [_, _, _], _ => rfl
  have U_need_shop := fun_mk (st := s_need_shop) l_need_shop c_need_shop k_need_shop
  have b_need_shop := U_need_shop.binds (ps := ["shop"]) fun _ _ _ _ _ _ us hl => match us, hl with | [_], _ => rfl
  have U_call := fun_mk (st := s_PriceList_call) l_call c_call k_call
  have b_call := U_call.binds (ps := ["self", "number"]) fun _ _ _ _ _ _ us hl => match us, hl with | [_, _], _ => rfl
  have U_or := fun_mk (st := s_PriceList_or) l_or c_or k_or
  have b_or := U_or.binds (ps := ["self", "other"]) fun _ _ _ _ _ _ us hl => match us, hl with | [_, _], _ => rfl
  have U_eq := fun_mk (st := s_PriceList_eq) l_eq c_eq k_eq
  have b_eq := U_eq.binds (ps := ["self", "other"]) fun _ _ _ _ _ _ us hl => match us, hl with | [_, _], _ => rfl
  have U_largest_for := fun_mk (st := s_largest_for) l_largest_for c_largest_for k_largest_for
  have b_largest_for := U_largest_for.binds (ps := ["shop", "total"]) fun _ _ _ _ _ _ us hl => match us, hl with | [_, _], _ => rfl
  have U_most_pieces := fun_mk (st := s_most_pieces) l_most_pieces c_most_pieces k_most_pieces
  have b_most_pieces := U_most_pieces.binds (ps := ["shop", "number"]) fun _ _ _ _ _ _ us hl => match us, hl with | [_, _], _ => rfl
  have U_law_source := fun_mk (st := s_law_source) l_law_source c_law_source k_law_source
  have b_law_source := U_law_source.binds (ps := ["script", "index"]) fun _ _ _ _ _ _ us hl => match us, hl with | [_, _], _ => rfl
  have U_law_draw := fun_mk (st := s_law_draw) l_law_draw c_law_draw k_law_draw
  have b_law_draw := U_law_draw.binds (ps := ["source", "size"]) fun _ _ _ _ _ _ us hl => match us, hl with | [_, _], _ => rfl
  have U_law_choice := fun_mk (st := s_law_choice) l_law_choice c_law_choice k_law_choice
  have b_law_choice := U_law_choice.binds (ps := ["source", "items"]) fun _ _ _ _ _ _ us hl => match us, hl with | [_, _], _ => rfl
  have U_law_packs := fun_mk (st := s_law_packs) l_law_packs c_law_packs k_law_packs
  have b_law_packs := U_law_packs.binds (ps := ["source", "most", "wide"]) fun _ _ _ _ _ _ us hl => match us, hl with | [_, _, _], _ => rfl
  have U_law_shop := fun_mk (st := s_law_shop) l_law_shop c_law_shop k_law_shop
  have b_law_shop := U_law_shop.binds (ps := ["packs"]) fun _ _ _ _ _ _ us hl => match us, hl with | [_], _ => rfl
  have U_Cart_init := fun_mk (st := s_Cart_init) l_Cart_init c_Cart_init k_Cart_init
  have b_Cart_init := U_Cart_init.binds (ps := ["self", "shop"]) fun _ _ _ _ _ _ us hl => match us, hl with | [_, _], _ => rfl
  have U_Cart_total := fun_mk (st := s_Cart_total) l_Cart_total c_Cart_total k_Cart_total
  have b_Cart_total := U_Cart_total.binds (ps := ["self"]) fun _ _ _ _ _ _ us hl => match us, hl with | [_], _ => rfl
  have U_Cart_wished := fun_mk (st := s_Cart_wished) l_Cart_wished c_Cart_wished k_Cart_wished
  have b_Cart_wished := U_Cart_wished.binds (ps := ["self"]) fun _ _ _ _ _ _ us hl => match us, hl with | [_], _ => rfl
  have U_Cart_extra := fun_mk (st := s_Cart_extra) l_Cart_extra c_Cart_extra k_Cart_extra
  have b_Cart_extra := U_Cart_extra.binds (ps := ["self"]) fun _ _ _ _ _ _ us hl => match us, hl with | [_], _ => rfl
  have U_Cart_move := fun_mk (st := s_Cart_move) l_Cart_move c_Cart_move k_Cart_move
  have b_Cart_move := U_Cart_move.binds (ps := ["self", "shop"]) fun _ _ _ _ _ _ us hl => match us, hl with | [_, _], _ => rfl
  have U_Cart_undo := fun_mk (st := s_Cart_undo) l_Cart_undo c_Cart_undo k_Cart_undo
  have b_Cart_undo := U_Cart_undo.binds (ps := ["self"]) fun _ _ _ _ _ _ us hl => match us, hl with | [_], _ => rfl
  have U_Cart_want := fun_mk (st := s_Cart_want) l_Cart_want c_Cart_want k_Cart_want
  have U_Cart_len := fun_mk (st := s_Cart_len) l_Cart_len c_Cart_len k_Cart_len
  have b_Cart_len := U_Cart_len.binds (ps := ["self"]) fun _ _ _ _ _ _ us hl => match us, hl with | [_], _ => rfl
  have U_Cart_eq := fun_mk (st := s_Cart_eq) l_Cart_eq c_Cart_eq k_Cart_eq
  have b_Cart_eq := U_Cart_eq.binds (ps := ["self", "other"]) fun _ _ _ _ _ _ us hl => match us, hl with | [_, _], _ => rfl
  have U_law := fun_mk (st := s_law) l_law c_law k_law
  refine ⟨PySem.W.fnOf "law" "law" (defArgs s_law) (defBody s_law) (defScope s_law) .none kV_law dc_law pm_law an_law cd_law ct_law, fun s v => .of_eq rfl, fun base _ _ => ?_⟩
  have G_is_between : FnD l.prog w K mg base ⟨C, Dc⟩ 1 "is_between" F_is_between := fnd_mk mono_is_between (PySem.W.mg_of X G a_is_between) k_is_between b_is_between (ok_is_between U_is_between T )
  have G_is_pack : FnD l.prog w K mg base ⟨C, Dc⟩ 2 "is_pack" F_is_pack := fnd_mk mono_is_pack (PySem.W.mg_of X G a_is_pack) k_is_pack b_is_pack (ok_is_pack U_is_pack T G_is_between)
  have G_prices_by : FnD l.prog w K mg base ⟨C, Dc⟩ 1 "prices_by" F_prices_by := fnd_mk mono_prices_by (PySem.W.mg_of X G a_prices_by) k_prices_by b_prices_by (ok_prices_by U_prices_by T )
  have G_needed_of : FnD l.prog w K mg base ⟨C, Dc⟩ 2 "needed_of" F_needed_of := fnd_mk mono_needed_of (PySem.W.mg_of X G a_needed_of) k_needed_of b_needed_of (ok_needed_of U_needed_of T G_prices_by)
  have G_best_pack : FnD l.prog w K mg base ⟨C, Dc⟩ 1 "best_pack" F_best_pack := fnd_mk mono_best_pack (PySem.W.mg_of X G a_best_pack) k_best_pack b_best_pack (ok_best_pack U_best_pack T )
  have M_shop : MkS l.prog w K mg base ⟨C, Dc⟩ 3 := ⟨PySem.W.mg_of X G aC, f_init, ⟨mk, a_init, i_init, kc⟩, ok_init U_init T G_is_pack G_needed_of G_best_pack G_prices_by⟩
  have G_price : MtD l.prog w K mg base ⟨C, Dc⟩ 1 C "price" F_price := mtd_mk mono_price ⟨a_price, i_price, k_price⟩ b_price (ok_price U_price T )
  have G_need_number : FnD l.prog w K mg base ⟨C, Dc⟩ 2 "need_number" F_need_number := fnd_mk mono_need_number (PySem.W.mg_of X G a_need_number) k_need_number b_need_number (ok_need_number U_need_number T G_is_between)
  have G_need_shop : FnD l.prog w K mg base ⟨C, Dc⟩ 1 "need_shop" F_need_shop := fnd_mk mono_need_shop (PySem.W.mg_of X G a_need_shop) k_need_shop b_need_shop (ok_need_shop U_need_shop T )
  have G_call : CalD l.prog w K mg base ⟨C, Dc⟩ 3 F_call := cald_mk mono_call ⟨a_call, i_call, n_call⟩ b_call (ok_call U_call T G_need_number G_price)
  have G_or : BinD l.prog w K mg base ⟨C, Dc⟩ 5 "__or__" F_or := bind_mk mono_or sf a_or i_or b_or (ok_or U_or T G_needed_of M_shop)
  have G_eq : BinD l.prog w K mg base ⟨C, Dc⟩ 1 "__eq__" F_eq := bind_mk mono_eq sf a_eq i_eq b_eq (ok_eq U_eq T )
  have G_largest_for : FnD l.prog w K mg base ⟨C, Dc⟩ 2 "largest_for" F_largest_for := fnd_mk mono_largest_for (PySem.W.mg_of X G a_largest_for) k_largest_for b_largest_for (ok_largest_for U_largest_for T G_price)
  have G_most_pieces : FnD l.prog w K mg base ⟨C, Dc⟩ 3 "most_pieces" F_most_pieces := fnd_mk mono_most_pieces (PySem.W.mg_of X G a_most_pieces) k_most_pieces b_most_pieces (ok_most_pieces U_most_pieces T G_need_shop G_need_number G_price G_largest_for)
  have G_law_source : FnD l.prog w K mg base ⟨C, Dc⟩ 1 "_law_source" F_source := fnd_mk mono_source (PySem.W.mg_of X G a_law_source) k_law_source b_law_source (ok_source U_law_source T )
  have G_law_draw : FnD l.prog w K mg base ⟨C, Dc⟩ 1 "_law_draw" F_draw := fnd_mk mono_draw (PySem.W.mg_of X G a_law_draw) k_law_draw b_law_draw (ok_draw U_law_draw T )
  have G_law_choice : FnD l.prog w K mg base ⟨C, Dc⟩ 2 "_law_choice" F_choice := fnd_mk mono_choice (PySem.W.mg_of X G a_law_choice) k_law_choice b_law_choice (ok_choice U_law_choice T G_law_draw)
  have G_law_packs : FnD l.prog w K mg base ⟨C, Dc⟩ 3 "_law_packs" F_lpacks := fnd_mk mono_lpacks (PySem.W.mg_of X G a_law_packs) k_law_packs b_law_packs (ok_lpacks U_law_packs T G_law_draw G_law_choice)
  have G_law_shop : FnD l.prog w K mg base ⟨C, Dc⟩ 6 "_law_shop" F_lshop := fnd_mk mono_lshop (PySem.W.mg_of X G a_law_shop) k_law_shop b_law_shop (ok_lshop U_law_shop T M_shop G_or)
  have M_cart : MkC l.prog w K mg base ⟨C, Dc⟩ 2 := mkc_mk (PySem.W.mg_of X G aD) ⟨mkD, a_Cart_init, i_Cart_init, kcD⟩ b_Cart_init (ok_cinit U_Cart_init TC G_need_shop)
  have Gc_total : MtC l.prog w K mg base ⟨C, Dc⟩ 2 "total" F_total := mtc_mk mono_total ⟨a_Cart_total, i_Cart_total, k_Cart_total⟩ b_Cart_total (ok_total U_Cart_total T TC G_price)
  have Gc_wished : MtC l.prog w K mg base ⟨C, Dc⟩ 1 "wished" F_wished := mtc_mk mono_wished ⟨a_Cart_wished, i_Cart_wished, k_Cart_wished⟩ b_Cart_wished (ok_wished U_Cart_wished TC)
  have Gc_extra : MtC l.prog w K mg base ⟨C, Dc⟩ 3 "extra" F_extra := mtc_mk mono_extra ⟨a_Cart_extra, i_Cart_extra, k_Cart_extra⟩ b_Cart_extra (ok_extra U_Cart_extra T TC G_price G_largest_for)
  have Gc_move : MtC l.prog w K mg base ⟨C, Dc⟩ 3 "move" F_move := mtc_mk mono_move ⟨a_Cart_move, i_Cart_move, k_Cart_move⟩ b_Cart_move (ok_move U_Cart_move TC G_need_shop Gc_total)
  have Gc_undo : MtC l.prog w K mg base ⟨C, Dc⟩ 1 "undo" F_undo := mtc_mk mono_undo ⟨a_Cart_undo, i_Cart_undo, k_Cart_undo⟩ b_Cart_undo (ok_undo U_Cart_undo T TC)
  have Gc_want : MtC l.prog w K mg base ⟨C, Dc⟩ 3 "want" F_want := ⟨mono_want, _, ⟨a_Cart_want, i_Cart_want, k_Cart_want⟩, ok_want U_Cart_want T TC G_need_number Gc_total⟩
  have Gc_len : BinC l.prog w K mg base ⟨C, Dc⟩ 1 "__len__" F_clen := binc_mk mono_clen sfD a_Cart_len i_Cart_len b_Cart_len (ok_clen U_Cart_len T TC)
  have EQSB : EqSB l.prog w K mg base ⟨C, Dc⟩ 1 := eqsb_mk (fun ps qs R h => ⟨ps, qs, rfl, h⟩) a_eq i_eq b_eq (ok_eq U_eq T)
  have Gc_eq : BinC l.prog w K mg base ⟨C, Dc⟩ 3 "__eq__" F_ceq := binc_mk mono_ceq sfD a_Cart_eq i_Cart_eq b_Cart_eq (ok_ceq U_Cart_eq T TC EQSB)
  exact law_imp (ok_law U_law T G_law_source G_law_draw G_law_choice G_law_packs G_law_shop G_most_pieces G_call M_shop X_enumerate M_cart TC Gc_want Gc_move Gc_undo Gc_total Gc_wished Gc_extra Gc_len Gc_eq)
end
end Lw
open PySem PySem.W PyProof.Rows in
set_option maxRecDepth 100000 in
set_option maxHeartbeats 0 in
theorem PySem.Challenge.cw_packprices_k18_whole_carts_as_sums_holds : PySem.Challenge.rw_packprices_k18_whole_carts_as_sums.Holds := by
  w_on; o_law; k_head; (case hw => w_witness2)
  k_fill
  refine DL.walk 7 (l := PySem.Challenge.rw_packprices_k18_whole_carts_as_sums) rfl rfl ⟨rfl, by decide, by decide⟩ (fun w h Y => PySem.W.kIn_of Y) ?F
  case F =>
    intro w mg fa h KX G hmg
    refine' Lw.all_mk KX G hmg ?aC ?aD ?a_is_between ?l_is_between ?c_is_between ?k_is_between ?a_is_pack ?l_is_pack ?c_is_pack ?k_is_pack ?a_prices_by ?l_prices_by ?c_prices_by ?k_prices_by ?a_needed_of ?l_needed_of ?c_needed_of ?k_needed_of ?a_best_pack ?l_best_pack ?c_best_pack ?k_best_pack ?a_init ?i_init ?l_init ?c_init ?k_init ?a_price ?i_price ?l_price ?c_price ?k_price ?a_need_number ?l_need_number ?c_need_number ?k_need_number ?a_need_shop ?l_need_shop ?c_need_shop ?k_need_shop ?a_call ?i_call ?l_call ?c_call ?k_call ?n_call ?a_or ?i_or ?l_or ?c_or ?k_or ?a_eq ?i_eq ?l_eq ?c_eq ?k_eq ?a_largest_for ?l_largest_for ?c_largest_for ?k_largest_for ?a_most_pieces ?l_most_pieces ?c_most_pieces ?k_most_pieces ?a_law_source ?l_law_source ?c_law_source ?k_law_source ?a_law_draw ?l_law_draw ?c_law_draw ?k_law_draw ?a_law_choice ?l_law_choice ?c_law_choice ?k_law_choice ?a_law_packs ?l_law_packs ?c_law_packs ?k_law_packs ?a_law_shop ?l_law_shop ?c_law_shop ?k_law_shop ?a_Cart_init ?i_Cart_init ?l_Cart_init ?c_Cart_init ?k_Cart_init ?a_Cart_total ?i_Cart_total ?l_Cart_total ?c_Cart_total ?k_Cart_total ?a_Cart_wished ?i_Cart_wished ?l_Cart_wished ?c_Cart_wished ?k_Cart_wished ?a_Cart_extra ?i_Cart_extra ?l_Cart_extra ?c_Cart_extra ?k_Cart_extra ?a_Cart_move ?i_Cart_move ?l_Cart_move ?c_Cart_move ?k_Cart_move ?a_Cart_undo ?i_Cart_undo ?l_Cart_undo ?c_Cart_undo ?k_Cart_undo ?a_Cart_want ?i_Cart_want ?l_Cart_want ?c_Cart_want ?k_Cart_want ?a_Cart_len ?i_Cart_len ?l_Cart_len ?c_Cart_len ?k_Cart_len ?a_Cart_eq ?i_Cart_eq ?l_Cart_eq ?c_Cart_eq ?k_Cart_eq ?a_law ?l_law ?c_law ?k_law ?pg ?hd ?po ?sa ?ca ?cn ?ct ?cm ?mk ?kc ?nN ?nB ?nK ?sf ?z_len ?z_isinstance ?z_int ?z_bool ?z_tuple ?z_list ?z_range ?z_min ?z_max ?z_sorted ?z_set ?z_all ?z_sum ?z_abs ?z_enumerate ?v_SIZE ?v_PRICE ?v_PACKS ?v_NUMBER ?pgD ?hdD ?poD ?saD ?caD ?cmD ?mkD ?kcD ?nSD ?sfD ?v_WISHED
    (case aC => k_is)
    (case aD => k_is)
    (case a_is_between => k_is)
    (case l_is_between => k_is)
    (case c_is_between => k_is)
    (case k_is_between => k_is)
    (case a_is_pack => k_is)
    (case l_is_pack => k_is)
    (case c_is_pack => k_is)
    (case k_is_pack => k_is)
    (case a_prices_by => k_is)
    (case l_prices_by => k_is)
    (case c_prices_by => k_is)
    (case k_prices_by => k_is)
    (case a_needed_of => k_is)
    (case l_needed_of => k_is)
    (case c_needed_of => k_is)
    (case k_needed_of => k_is)
    (case a_best_pack => k_is)
    (case l_best_pack => k_is)
    (case c_best_pack => k_is)
    (case k_best_pack => k_is)
    (case a_init => k_is)
    (case i_init => k_is)
    (case l_init => k_is)
    (case c_init => k_is)
    (case k_init => k_is)
    (case a_price => k_is)
    (case i_price => k_is)
    (case l_price => k_is)
    (case c_price => k_is)
    (case k_price => k_is)
    (case a_need_number => k_is)
    (case l_need_number => k_is)
    (case c_need_number => k_is)
    (case k_need_number => k_is)
    (case a_need_shop => k_is)
    (case l_need_shop => k_is)
    (case c_need_shop => k_is)
    (case k_need_shop => k_is)
    (case a_call => k_is)
    (case i_call => k_is)
    (case l_call => k_is)
    (case c_call => k_is)
    (case k_call => k_is)
    (case n_call => k_is)
    (case a_or => k_is)
    (case i_or => k_is)
    (case l_or => k_is)
    (case c_or => k_is)
    (case k_or => k_is)
    (case a_eq => k_is)
    (case i_eq => k_is)
    (case l_eq => k_is)
    (case c_eq => k_is)
    (case k_eq => k_is)
    (case a_largest_for => k_is)
    (case l_largest_for => k_is)
    (case c_largest_for => k_is)
    (case k_largest_for => k_is)
    (case a_most_pieces => k_is)
    (case l_most_pieces => k_is)
    (case c_most_pieces => k_is)
    (case k_most_pieces => k_is)
    (case a_law_source => k_is)
    (case l_law_source => k_is)
    (case c_law_source => k_is)
    (case k_law_source => k_is)
    (case a_law_draw => k_is)
    (case l_law_draw => k_is)
    (case c_law_draw => k_is)
    (case k_law_draw => k_is)
    (case a_law_choice => k_is)
    (case l_law_choice => k_is)
    (case c_law_choice => k_is)
    (case k_law_choice => k_is)
    (case a_law_packs => k_is)
    (case l_law_packs => k_is)
    (case c_law_packs => k_is)
    (case k_law_packs => k_is)
    (case a_law_shop => k_is)
    (case l_law_shop => k_is)
    (case c_law_shop => k_is)
    (case k_law_shop => k_is)
    (case a_Cart_init => k_is)
    (case i_Cart_init => k_is)
    (case l_Cart_init => k_is)
    (case c_Cart_init => k_is)
    (case k_Cart_init => k_is)
    (case a_Cart_total => k_is)
    (case i_Cart_total => k_is)
    (case l_Cart_total => k_is)
    (case c_Cart_total => k_is)
    (case k_Cart_total => k_is)
    (case a_Cart_wished => k_is)
    (case i_Cart_wished => k_is)
    (case l_Cart_wished => k_is)
    (case c_Cart_wished => k_is)
    (case k_Cart_wished => k_is)
    (case a_Cart_extra => k_is)
    (case i_Cart_extra => k_is)
    (case l_Cart_extra => k_is)
    (case c_Cart_extra => k_is)
    (case k_Cart_extra => k_is)
    (case a_Cart_move => k_is)
    (case i_Cart_move => k_is)
    (case l_Cart_move => k_is)
    (case c_Cart_move => k_is)
    (case k_Cart_move => k_is)
    (case a_Cart_undo => k_is)
    (case i_Cart_undo => k_is)
    (case l_Cart_undo => k_is)
    (case c_Cart_undo => k_is)
    (case k_Cart_undo => k_is)
    (case a_Cart_want => k_is)
    (case i_Cart_want => k_is)
    (case l_Cart_want => k_is)
    (case c_Cart_want => k_is)
    (case k_Cart_want => k_is)
    (case a_Cart_len => k_is)
    (case i_Cart_len => k_is)
    (case l_Cart_len => k_is)
    (case c_Cart_len => k_is)
    (case k_Cart_len => k_is)
    (case a_Cart_eq => k_is)
    (case i_Cart_eq => k_is)
    (case l_Cart_eq => k_is)
    (case c_Cart_eq => k_is)
    (case k_Cart_eq => k_is)
    (case a_law => k_is)
    (case l_law => k_is)
    (case c_law => k_is)
    (case k_law => k_is)
    (case pg => k_is)
    (case hd => k_is)
    (case po => k_is)
    (case sa => k_is)
    (case ca => k_is)
    (case cn => k_is)
    (case ct => k_is)
    (case cm => k_is)
    (case mk => k_is)
    (case kc => k_is)
    (case nN => k_is)
    (case nB => k_is)
    (case nK => k_is)
    (case sf => k_is)
    (case z_len => k_is)
    (case z_isinstance => k_is)
    (case z_int => k_is)
    (case z_bool => k_is)
    (case z_tuple => k_is)
    (case z_list => k_is)
    (case z_range => k_is)
    (case z_min => k_is)
    (case z_max => k_is)
    (case z_sorted => k_is)
    (case z_set => k_is)
    (case z_all => k_is)
    (case z_sum => k_is)
    (case z_abs => k_is)
    (case z_enumerate => k_is)
    (case v_SIZE => k_is)
    (case v_PRICE => k_is)
    (case v_PACKS => k_is)
    (case v_NUMBER => k_is)
    (case pgD => k_is)
    (case hdD => k_is)
    (case poD => k_is)
    (case saD => k_is)
    (case caD => k_is)
    (case cmD => k_is)
    (case mkD => k_is)
    (case kcD => k_is)
    (case nSD => k_is)
    (case sfD => k_is)
    (case v_WISHED => k_is)

