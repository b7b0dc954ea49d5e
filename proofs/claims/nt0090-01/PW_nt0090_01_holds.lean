import PyProof.Rows.All
import Wide.All
import OpenK.AllK
import Wide.FinOn
import Lean
import PySem.Challenge.RW_nt0090_01
set_option Elab.async false
namespace Mine
/-- how many pages more a filling from the left wants -/
def plainN (b : Bool) (room : Int) : List Int → Int → Int
  | [], _ => 0
  | c :: r, used => if used + c ≤ room then plainN b room r (used + c) else 1 + plainN b room r (if b then 0 else c)
theorem drop_at {α : Type} (l : List α) (d : α) {i : Int} (h0 : 0 ≤ i) (h1 : i < (l.length : Int)) : l.drop i.toNat = l.getD i.toNat d :: l.drop (i + 1).toNat := by
  have hl : i.toNat < l.length := by omega
  have e : (i + 1).toNat = i.toNat + 1 := by omega
  rw [e, List.drop_eq_getElem_cons hl, List.getD_eq_getElem?_getD, List.getElem?_eq_getElem hl]
  rfl
theorem plain_fit {b : Bool} {room u i : Int} {co : List Int} (h0 : 0 ≤ i) (h1 : i < (co.length : Int)) (h : u + co.getD i.toNat 0 ≤ room) :
    plainN b room (co.drop i.toNat) u = plainN b room (co.drop (i + 1).toNat) (u + co.getD i.toNat 0) := by
  rw [drop_at co 0 h0 h1, plainN, if_pos h]
theorem plain_not {b : Bool} {room u i : Int} {co : List Int} (h0 : 0 ≤ i) (h1 : i < (co.length : Int)) (h : ¬ u + co.getD i.toNat 0 ≤ room) :
    plainN b room (co.drop i.toNat) u = 1 + plainN b room (co.drop (i + 1).toNat) (if b then 0 else co.getD i.toNat 0) := by
  rw [drop_at co 0 h0 h1, plainN, if_neg h]
theorem plain_end {b : Bool} {room u i : Int} {co : List Int} (h1 : ¬ i < (co.length : Int)) : plainN b room (co.drop i.toNat) u = 0 := by
  rw [List.drop_eq_nil_of_le (by omega), plainN]
theorem plain_pos (b : Bool) (room : Int) : ∀ (l : List Int) (u : Int), 0 ≤ plainN b room l u
  | [], _ => by simp [plainN]
  | c :: r, u => by
    rw [plainN]
    split
    · exact plain_pos b room r _
    · have := plain_pos b room r (if b then 0 else c); omega
/-- the sum of the first i -/
def pre (co : List Int) (i : Int) : Int := (co.take i.toNat).sum
def stp (b : Bool) : Int := if b then 1 else 0
/-- where page k begins and ends -/
def sAt (b : Bool) (es : List Int) (k : Nat) : Int := if k = 0 then 0 else es.getD (k - 1) 0 + stp b
def eAt (es : List Int) (k : Nat) : Int := es.getD k 0
/-- what every cell's cost keeps to -/
def Fits (room : Int) (co : List Int) : Prop := ∀ c ∈ co, 0 < c ∧ 2 * c ≤ room
theorem pre_succ {co : List Int} {i : Int} (h0 : 0 ≤ i) (h1 : i < (co.length : Int)) : pre co (i + 1) = pre co i + co.getD i.toNat 0 := by
  have hl : i.toNat < co.length := by omega
  have e : (i + 1).toNat = i.toNat + 1 := by omega
  unfold pre
  rw [e, List.take_add_one, List.getElem?_eq_getElem hl, List.getD_eq_getElem?_getD, List.getElem?_eq_getElem hl, List.sum_append]
  simp only [Option.toList, List.sum_cons, List.sum_nil, Option.getD, Int.add_zero]
theorem Fits.at {room : Int} {co : List Int} (h : Fits room co) {i : Int} (h0 : 0 ≤ i) (h1 : i < (co.length : Int)) : 0 < co.getD i.toNat 0 ∧ 2 * co.getD i.toNat 0 ≤ room := by
  have hl : i.toNat < co.length := by omega
  rw [List.getD_eq_getElem?_getD, List.getElem?_eq_getElem hl]
  exact h _ (List.getElem_mem hl)
/-- between the pages of the first filling -/
structure FInv (b : Bool) (room : Int) (co es : List Int) (start : Int) : Prop where
  start_eq : start = sAt b es es.length
  lo : 0 ≤ start
  hi : start < (co.length : Int)
  page : ∀ k, k < es.length → 0 ≤ sAt b es k ∧ sAt b es k + 2 ≤ eAt es k ∧ eAt es k < (co.length : Int) ∧ pre co (eAt es k) - pre co (sAt b es k) ≤ room
  count : (es.length : Int) + plainN b room (co.drop start.toNat) 0 = plainN b room co 0
  few : (es.length : Int) ≤ start
/-- within a page -/
structure GInv (b : Bool) (room : Int) (co : List Int) (start used en : Int) : Prop where
  lo : start ≤ en
  hi : en ≤ (co.length : Int)
  used_eq : used = pre co en - pre co start
  room_le : used ≤ room
  count : plainN b room (co.drop start.toNat) 0 = plainN b room (co.drop en.toNat) used
theorem FInv.start {b : Bool} {room : Int} {co : List Int} (hpos : 0 < co.length) : FInv b room co [] 0 :=
  ⟨by simp [sAt], Int.le_refl _, by omega, fun k hk => absurd hk (Nat.not_lt_zero _), by simp, by simp⟩
theorem GInv.start {b : Bool} {room : Int} {co es : List Int} {start : Int} (h : FInv b room co es start) (hr : 0 ≤ room) : GInv b room co start 0 start :=
  ⟨Int.le_refl _, by have := h.hi; omega, by omega, hr, rfl⟩
theorem GInv.step {b : Bool} {room : Int} {co : List Int} {start used en : Int} (h : GInv b room co start used en) (h0 : 0 ≤ start) (hlt : en < (co.length : Int)) (hf : used + co.getD en.toNat 0 ≤ room) :
    GInv b room co start (used + co.getD en.toNat 0) (en + 1) := by
  have h1 := h.lo
  have hp := pre_succ (co := co) (i := en) (by omega) hlt
  refine ⟨by omega, by omega, ?_, hf, ?_⟩
  · have := h.used_eq; omega
  · rw [h.count, plain_fit (by omega) hlt hf]
/-- an overflow closes a page of two cells or more -/
theorem GInv.two {b : Bool} {room : Int} {co : List Int} {start used en : Int} (h : GInv b room co start used en) (hfit : Fits room co) (h0 : 0 ≤ start) (hlt : en < (co.length : Int)) (hf : ¬ used + co.getD en.toNat 0 ≤ room) : start + 2 ≤ en := by
  have h1 := h.lo
  have he := hfit.at (i := en) (by omega) hlt
  have hu := h.used_eq
  by_cases e0 : en = start
  · subst e0; omega
  · by_cases e1 : en = start + 1
    · subst e1
      have hp := pre_succ (co := co) (i := start) h0 (by omega)
      have hs := hfit.at (i := start) h0 (by omega)
      omega
    · omega

theorem eAt_old {es fs : List Int} {k : Nat} (hk : k < es.length) : eAt (es ++ fs) k = eAt es k := by
  unfold eAt
  rw [List.getD_eq_getElem?_getD, List.getD_eq_getElem?_getD, List.getElem?_append_left hk]
theorem eAt_new {es : List Int} {x : Int} {fs : List Int} : eAt (es ++ x :: fs) es.length = x := by
  unfold eAt
  rw [List.getD_eq_getElem?_getD, List.getElem?_append_right (Nat.le_refl _), Nat.sub_self]
  rfl
theorem sAt_succ {b : Bool} {es : List Int} {k : Nat} : sAt b es (k + 1) = eAt es k + stp b := by
  unfold sAt eAt
  rw [if_neg (Nat.succ_ne_zero k), Nat.add_sub_cancel]
theorem sAt_zero {b : Bool} {es : List Int} : sAt b es 0 = 0 := by unfold sAt; rw [if_pos rfl]
theorem sAt_old {b : Bool} {es fs : List Int} {k : Nat} (hk : k ≤ es.length) : sAt b (es ++ fs) k = sAt b es k := by
  cases k with
  | zero => rw [sAt_zero, sAt_zero]
  | succ k => rw [sAt_succ, sAt_succ, eAt_old hk]
theorem stp_01 (b : Bool) : (b = true ∧ stp b = 1) ∨ (b = false ∧ stp b = 0) := by cases b <;> simp [stp]
/-- the pages of the first filling -/
structure FE (b : Bool) (room : Int) (co es : List Int) : Prop where
  ne : 0 < es.length
  last : eAt es (es.length - 1) = (co.length : Int)
  page : ∀ k, k < es.length → 0 ≤ sAt b es k ∧ sAt b es k ≤ eAt es k ∧ eAt es k ≤ (co.length : Int) ∧ pre co (eAt es k) - pre co (sAt b es k) ≤ room
  mid : ∀ k, k + 1 < es.length → sAt b es k + 2 ≤ eAt es k ∧ eAt es k < (co.length : Int)
  lastp : sAt b es (es.length - 1) < eAt es (es.length - 1) ∨ 2 ≤ es.length
  count : (es.length : Int) = 1 + plainN b room co 0
  few : (es.length : Int) ≤ (co.length : Int) + 1
theorem FInv.pages {b : Bool} {room : Int} {co es : List Int} {start used en : Int} (h : FInv b room co es start) (g : GInv b room co start used en) (h2 : start + 2 ≤ en) (hlt : en < (co.length : Int)) :
    ∀ k, k < (es ++ [en]).length → 0 ≤ sAt b (es ++ [en]) k ∧ sAt b (es ++ [en]) k + 2 ≤ eAt (es ++ [en]) k ∧ eAt (es ++ [en]) k < (co.length : Int) ∧ pre co (eAt (es ++ [en]) k) - pre co (sAt b (es ++ [en]) k) ≤ room := by
  intro k hk
  rw [List.length_append, List.length_singleton] at hk
  by_cases hk' : k < es.length
  · rw [eAt_old hk', sAt_old (Nat.le_of_lt hk')]
    exact h.page k hk'
  · have e : k = es.length := by omega
    subst e
    rw [eAt_new, sAt_old (Nat.le_refl _), ← h.start_eq]
    have h0 := h.lo
    have h1 := g.used_eq
    have h3 := g.room_le
    exact ⟨h0, h2, hlt, by omega⟩
theorem FInv.over {b : Bool} {room : Int} {co es : List Int} {start used en : Int} (h : FInv b room co es start) (g : GInv b room co start used en) (hfit : Fits room co) (hlt : en < (co.length : Int)) (hf : ¬ used + co.getD en.toNat 0 ≤ room) :
    plainN b room (co.drop start.toNat) 0 = 1 + plainN b room (co.drop (en + stp b).toNat) 0 := by
  have h0 := h.lo
  have h1 := g.lo
  rw [g.count, plain_not (by omega) hlt hf]
  have hc := hfit.at (i := en) (by omega) hlt
  rcases stp_01 b with ⟨hb, hs⟩ | ⟨hb, hs⟩
  · rw [hs, if_pos hb]
  · rw [hs, if_neg (by simp [hb]), Int.add_zero, plain_fit (i := en) (u := 0) (by omega) hlt (by omega), Int.zero_add]
theorem FInv.next {b : Bool} {room : Int} {co es : List Int} {start used en : Int} (h : FInv b room co es start) (g : GInv b room co start used en) (hfit : Fits room co) (hlt : en < (co.length : Int)) (hf : ¬ used + co.getD en.toNat 0 ≤ room)
    (hs : en + stp b < (co.length : Int)) : FInv b room co (es ++ [en]) (en + stp b) := by
  have h0 := h.lo
  have h1 := g.lo
  have h2 := g.two hfit h0 hlt hf
  have hst := stp_01 b
  refine ⟨?_, by omega, hs, h.pages g h2 hlt, ?_, ?_⟩
  · rw [List.length_append, List.length_singleton, sAt_succ, eAt_new]
  · have hc := h.count
    have ho := h.over g hfit hlt hf
    rw [List.length_append, List.length_singleton]
    omega
  · have hw := h.few
    rw [List.length_append, List.length_singleton]
    omega
theorem FInv.fin1 {b : Bool} {room : Int} {co es : List Int} {start used en : Int} (h : FInv b room co es start) (g : GInv b room co start used en) (hge : ¬ en < (co.length : Int)) : FE b room co (es ++ [(co.length : Int)]) := by
  have h0 := h.lo
  have h1 := g.lo
  have h2 := g.hi
  have h3 := h.hi
  have en_eq : en = (co.length : Int) := by omega
  have hl : (es ++ [(co.length : Int)]).length = es.length + 1 := by rw [List.length_append, List.length_singleton]
  refine ⟨by omega, ?_, ?_, ?_, ?_, ?_, ?_⟩
  · rw [hl, Nat.add_sub_cancel, eAt_new]
  · intro k hk
    rw [hl] at hk
    by_cases hk' : k < es.length
    · rw [eAt_old hk', sAt_old (Nat.le_of_lt hk')]
      have := h.page k hk'
      omega
    · have e : k = es.length := by omega
      subst e
      rw [eAt_new, sAt_old (Nat.le_refl _), ← h.start_eq]
      have h4 := g.used_eq
      have h5 := g.room_le
      rw [en_eq] at h4
      omega
  · intro k hk
    rw [hl] at hk
    have hk' : k < es.length := by omega
    rw [eAt_old hk', sAt_old (Nat.le_of_lt hk')]
    have := h.page k hk'
    omega
  · left
    rw [hl, Nat.add_sub_cancel, eAt_new, sAt_old (Nat.le_refl _), ← h.start_eq]
    exact h3
  · have hc := h.count
    rw [g.count, plain_end hge] at hc
    rw [hl]
    omega
  · have hw := h.few
    rw [hl]
    omega
theorem FInv.fin2 {b : Bool} {room : Int} {co es : List Int} {start used en : Int} (h : FInv b room co es start) (g : GInv b room co start used en) (hfit : Fits room co) (hlt : en < (co.length : Int)) (hf : ¬ used + co.getD en.toNat 0 ≤ room)
    (hs : ¬ en + stp b < (co.length : Int)) (hr : 0 ≤ room) : FE b room co ((es ++ [en]) ++ [(co.length : Int)]) := by
  have h0 := h.lo
  have h1 := g.lo
  have h2 := g.two hfit h0 hlt hf
  have hst := stp_01 b
  have hpg := h.pages g h2 hlt
  have hl1 : (es ++ [en]).length = es.length + 1 := by rw [List.length_append, List.length_singleton]
  have hl : ((es ++ [en]) ++ [(co.length : Int)]).length = es.length + 2 := by rw [List.length_append, hl1, List.length_singleton]
  have hS : sAt b ((es ++ [en]) ++ [(co.length : Int)]) (es.length + 1) = (co.length : Int) := by
    rw [sAt_succ, eAt_old (by omega), eAt_new]; omega
  have hE : eAt ((es ++ [en]) ++ [(co.length : Int)]) (es.length + 1) = (co.length : Int) := by
    rw [← hl1, eAt_new]
  refine ⟨by omega, ?_, ?_, ?_, ?_, ?_, ?_⟩
  · rw [hl]; exact hE
  · intro k hk
    rw [hl] at hk
    by_cases hk' : k < (es ++ [en]).length
    · rw [eAt_old hk', sAt_old (Nat.le_of_lt hk')]
      have := hpg k hk'
      omega
    · have e : k = es.length + 1 := by omega
      subst e
      rw [hE, hS]
      omega
  · intro k hk
    rw [hl] at hk
    have hk' : k < (es ++ [en]).length := by omega
    rw [eAt_old hk', sAt_old (Nat.le_of_lt hk')]
    have := hpg k hk'
    omega
  · right; omega
  · have hc := h.count
    have ho := h.over g hfit hlt hf
    rw [plain_end (i := en + stp b) hs] at ho
    rw [hl]
    omega
  · have hw := h.few
    rw [hl]
    omega
def gainAt (b : Bool) (co es : List Int) (k : Nat) : Int := if b then co.getD (eAt es k).toNat 0 else co.getD (eAt es k - 1).toNat 0
def csum (b : Bool) (co es : List Int) (k : Nat) : Int := pre co (eAt es k) - pre co (sAt b es k)
def Even (b : Bool) (co es : List Int) : Prop := 2 ≤ es.length → sAt b es 0 + 2 ≤ eAt es 0 → csum b co es 0 - co.getD (eAt es 0 - 1).toNat 0 < csum b co es 1 + gainAt b co es 0
/-- the pages from j on are done -/
structure EInv (b : Bool) (room : Int) (co : List Int) (len j : Nat) (es : List Int) : Prop where
  len_eq : es.length = len
  j_lo : 1 ≤ j
  j_hi : j ≤ len
  last : eAt es (len - 1) = (co.length : Int)
  page : ∀ k, k < len → 0 ≤ sAt b es k ∧ sAt b es k ≤ eAt es k ∧ eAt es k ≤ (co.length : Int) ∧ csum b co es k ≤ room
  below : ∀ k, k + 1 < len → eAt es k < (co.length : Int)
  mid : ∀ k, k + 1 < j → sAt b es k + 2 ≤ eAt es k
  done : ∀ k, j ≤ k → k < len → sAt b es k < eAt es k
  cur : sAt b es (j - 1) < eAt es (j - 1) ∨ (2 ≤ j ∧ j = len)
  even : j = 1 → Even b co es
theorem FE.start {b : Bool} {room : Int} {co es : List Int} (h : FE b room co es) : EInv b room co es.length es.length es := by
  have hne := h.ne
  refine ⟨rfl, h.ne, Nat.le_refl _, h.last, h.page, fun k hk => (h.mid k hk).2, fun k hk => (h.mid k hk).1, fun k h1 h2 => by omega, ?_, ?_⟩
  · rcases h.lastp with hl | hl
    · exact .inl hl
    · exact .inr ⟨hl, rfl⟩
  · intro h1 h2; omega
theorem eAt_set {es : List Int} {p k : Nat} {x : Int} (hp : p < es.length) : eAt (es.set p x) k = if k = p then x else eAt es k := by
  unfold eAt
  rw [List.getD_eq_getElem?_getD, List.getElem?_set]
  by_cases e : k = p
  · subst e; rw [if_pos rfl, if_pos hp, if_pos rfl]; rfl
  · rw [if_neg (fun q => e q.symm), if_neg e, List.getD_eq_getElem?_getD]
theorem sAt_set {b : Bool} {es : List Int} {p k : Nat} {x : Int} (hp : p < es.length) : sAt b (es.set p x) k = if k = p + 1 then x + stp b else sAt b es k := by
  cases k with
  | zero => rw [sAt_zero, sAt_zero, if_neg (by omega)]
  | succ k =>
    rw [sAt_succ, sAt_succ, eAt_set hp]
    by_cases e : k = p
    · subst e; rw [if_pos rfl, if_pos rfl]
    · rw [if_neg e, if_neg (by omega)]
/-- within the evening of page p (its left one is q = p - 1) -/
structure WInv (b : Bool) (room : Int) (co : List Int) (len q : Nat) (es : List Int) (right left : Int) (moving : Bool) : Prop where
  len_eq : es.length = len
  q_hi : q + 1 < len
  last : eAt es (len - 1) = (co.length : Int)
  page : ∀ k, k < len → 0 ≤ sAt b es k ∧ sAt b es k ≤ eAt es k ∧ eAt es k ≤ (co.length : Int) ∧ csum b co es k ≤ room
  below : ∀ k, k + 1 < len → eAt es k < (co.length : Int)
  mid : ∀ k, k < q → sAt b es k + 2 ≤ eAt es k
  done : ∀ k, q + 1 < k → k < len → sAt b es k < eAt es k
  right_eq : right = csum b co es (q + 1)
  left_eq : left = csum b co es q
  prev : sAt b es q < eAt es q
  cur : sAt b es (q + 1) < eAt es (q + 1) ∨ (moving = true ∧ sAt b es q + 2 ≤ eAt es q)
  stop : moving = false → ¬ (sAt b es q < eAt es q - 1 ∧ (eAt es (q + 1) ≤ sAt b es (q + 1) ∨ right + gainAt b co es q ≤ left - co.getD (eAt es q - 1).toNat 0))
theorem WInv.start {b : Bool} {room : Int} {co es : List Int} {len q : Nat} (h : EInv b room co len (q + 2) es) : WInv b room co len q es (csum b co es (q + 1)) (csum b co es q) true := by
  have hj := h.j_hi
  have hm := h.mid q (by omega)
  refine ⟨h.len_eq, by omega, h.last, h.page, h.below, fun k hk => h.mid k (by omega), fun k h1 h2 => h.done k (by omega) h2, rfl, rfl, by omega, ?_, fun e => by cases e⟩
  rcases h.cur with hc | ⟨_, hc⟩
  · exact .inl hc
  · exact .inr ⟨rfl, hm⟩
theorem WInv.halt {b : Bool} {room : Int} {co es : List Int} {len q : Nat} {right left : Int} (h : WInv b room co len q es right left true)
    (hc : ¬ (sAt b es q < eAt es q - 1 ∧ (eAt es (q + 1) ≤ sAt b es (q + 1) ∨ right + gainAt b co es q ≤ left - co.getD (eAt es q - 1).toNat 0))) : WInv b room co len q es right left false := by
  refine ⟨h.len_eq, h.q_hi, h.last, h.page, h.below, h.mid, h.done, h.right_eq, h.left_eq, h.prev, ?_, fun _ => hc⟩
  left
  rcases h.cur with h1 | ⟨_, h1⟩
  · exact h1
  · by_cases h2 : eAt es (q + 1) ≤ sAt b es (q + 1)
    · exact absurd ⟨by omega, .inl h2⟩ hc
    · omega
theorem WInv.finish {b : Bool} {room : Int} {co es : List Int} {len q : Nat} {right left : Int} (h : WInv b room co len q es right left false) : EInv b room co len (q + 1) es := by
  have hq := h.q_hi
  have hcur : sAt b es (q + 1) < eAt es (q + 1) := by
    rcases h.cur with h1 | ⟨h1, _⟩
    · exact h1
    · cases h1
  refine ⟨h.len_eq, by omega, by omega, h.last, h.page, h.below, fun k hk => h.mid k (by omega), fun k h1 h2 => ?_, .inl h.prev, fun e h2 h3 => ?_⟩
  · by_cases e : k = q + 1
    · rw [e]; exact hcur
    · exact h.done k (by omega) h2
  · have e0 : q = 0 := by omega
    subst e0
    have hs := h.stop rfl
    rw [← h.right_eq, ← h.left_eq]
    have : ¬ (right + gainAt b co es 0 ≤ left - co.getD (eAt es 0 - 1).toNat 0) := fun hle => hs ⟨by omega, .inr hle⟩
    omega
theorem WInv.move {b : Bool} {room : Int} {co es : List Int} {len q : Nat} {right left : Int} (h : WInv b room co len q es right left true) (hfit : Fits room co)
    (hc : sAt b es q < eAt es q - 1 ∧ (eAt es (q + 1) ≤ sAt b es (q + 1) ∨ right + gainAt b co es q ≤ left - co.getD (eAt es q - 1).toNat 0)) :
    WInv b room co len q (es.set q (eAt es q - 1)) (right + gainAt b co es q) (left - co.getD (eAt es q - 1).toNat 0) true := by
  have hq := h.q_hi
  have hl := h.len_eq
  have hp : q < es.length := by omega
  have hpage := h.page
  have pq := hpage q (by omega)
  have pq1 := hpage (q + 1) (by omega)
  have hb := h.below q hq
  have hst := stp_01 b
  have hss : sAt b es (q + 1) = eAt es q + stp b := sAt_succ
  have hlo := hfit.at (i := eAt es q - 1) (by omega) (by omega)
  have hpl := pre_succ (co := co) (i := eAt es q - 1) (by omega) (by omega)
  rw [Int.sub_add_cancel] at hpl
  -- the sums of the two pages
  have e1 : ∀ k, eAt (es.set q (eAt es q - 1)) k = if k = q then eAt es q - 1 else eAt es k := fun k => eAt_set hp
  have e2 : ∀ k, sAt b (es.set q (eAt es q - 1)) k = if k = q + 1 then eAt es q - 1 + stp b else sAt b es k := fun k => sAt_set hp
  have gpos : 0 < gainAt b co es q ∧ 2 * gainAt b co es q ≤ room ∧ pre co (sAt b es (q + 1)) = pre co (eAt es q - 1 + stp b) + gainAt b co es q := by
    unfold gainAt
    rcases hst with ⟨hb1, hs1⟩ | ⟨hb1, hs1⟩
    · have hg := hfit.at (i := eAt es q) (by omega) hb
      have hpg := pre_succ (co := co) (i := eAt es q) (by omega) hb
      rw [if_pos hb1, hss, hs1, Int.sub_add_cancel]
      exact ⟨hg.1, hg.2, hpg⟩
    · rw [if_neg (by simp [hb1]), hss, hs1, Int.add_zero, Int.add_zero]
      exact ⟨hlo.1, hlo.2, hpl⟩
  have cq : csum b co (es.set q (eAt es q - 1)) q = left - co.getD (eAt es q - 1).toNat 0 := by
    unfold csum
    rw [e1, if_pos rfl, e2, if_neg (by omega), h.left_eq]
    unfold csum
    omega
  have cq1 : csum b co (es.set q (eAt es q - 1)) (q + 1) = right + gainAt b co es q := by
    unfold csum
    rw [e1, if_neg (by omega), e2, if_pos rfl, h.right_eq]
    unfold csum
    omega
  have cold : ∀ k, k ≠ q → k ≠ q + 1 → csum b co (es.set q (eAt es q - 1)) k = csum b co es k := by
    intro k h1 h2
    unfold csum
    rw [e1, if_neg h1, e2, if_neg h2]
  have room1 : right + gainAt b co es q ≤ room := by
    have hr := h.right_eq
    have hle := h.left_eq
    rcases hc.2 with h1 | h1
    · have : eAt es (q + 1) = sAt b es (q + 1) := by omega
      unfold csum at hr
      rw [this] at hr
      omega
    · omega
  have hle := h.left_eq
  refine ⟨by rw [List.length_set]; exact hl, hq, ?_, ?_, ?_, ?_, ?_, cq1.symm, cq.symm, ?_, ?_, fun e => by cases e⟩
  · rw [e1, if_neg (by omega)]; exact h.last
  · intro k hk
    have pk := hpage k hk
    by_cases k1 : k = q
    · subst k1
      rw [cq, e1, if_pos rfl, e2, if_neg (by omega)]
      omega
    · by_cases k2 : k = q + 1
      · subst k2
        rw [cq1, e1, if_neg (by omega), e2, if_pos rfl]
        omega
      · rw [cold k k1 k2, e1, if_neg k1, e2, if_neg k2]
        exact pk
  · intro k hk
    rw [e1]
    have := h.below k hk
    split <;> omega
  · intro k hk
    rw [e1, if_neg (by omega), e2, if_neg (by omega)]
    exact h.mid k hk
  · intro k h1 h2
    rw [e1, if_neg (by omega), e2, if_neg (by omega)]
    exact h.done k h1 h2
  · rw [e1, if_pos rfl, e2, if_neg (by omega)]; exact hc.1
  · left
    rw [e1, if_neg (by omega), e2, if_pos rfl]
    omega
def startsL (b : Bool) (es : List Int) : List Int := 0 :: es.dropLast.map (· + stp b)
theorem startsL_len {b : Bool} {es : List Int} (h : 0 < es.length) : (startsL b es).length = es.length := by
  unfold startsL
  rw [List.length_cons, List.length_map, List.length_dropLast]
  omega
theorem startsL_at {b : Bool} {es : List Int} {k : Nat} (h : k < es.length) : (startsL b es).getD k 0 = sAt b es k := by
  unfold startsL
  cases k with
  | zero => rw [sAt_zero]; rfl
  | succ k =>
    rw [sAt_succ, List.getD_eq_getElem?_getD, List.getElem?_cons_succ, List.getElem?_map, List.getElem?_dropLast, if_pos (by omega), List.getElem?_eq_getElem (by omega)]
    unfold eAt
    rw [List.getD_eq_getElem?_getD, List.getElem?_eq_getElem (by omega)]
    rfl
theorem sum_slice {co : List Int} {i j : Int} (h0 : 0 ≤ i) (h1 : i ≤ j) : ((co.take j.toNat).drop i.toNat).sum = pre co j - pre co i := by
  have e : (co.take j.toNat).take i.toNat = co.take i.toNat := by
    rw [List.take_take]; congr 1; omega
  have h := congrArg List.sum (List.take_append_drop i.toNat (co.take j.toNat))
  rw [List.sum_append, e] at h
  unfold pre
  omega
theorem sum_slice2 {co : List Int} {i j : Int} (h0 : 0 ≤ i) (h1 : i ≤ j) (h2 : j ≤ (co.length : Int)) : (List.take (min j.toNat co.length - i.toNat) (List.drop i.toNat co)).sum = pre co j - pre co i := by
  have e : min j.toNat co.length = j.toNat := by omega
  rw [e, ← sum_slice h0 h1, List.drop_take]

end Mine
open PySem PySem.W PyProof.Rows PySem.Calls
set_option maxRecDepth 100000
set_option maxHeartbeats 8000000
namespace Mine
open_top hd for PySem.Challenge.rw_nt0090_01
def Filled (_ : OpenLaw) (_ : Params → Frag) : Prop := True
theorem filled : Filled PySem.Challenge.rw_nt0090_01 hd.heap_39 := by
  k_fill
  trivial
def Halt (P : Prop) : Prop := P
theorem halt {P : Prop} (h : Halt P) : P := h
theorem unhalt {P : Prop} (h : P) : Halt P := h

section
variable {prog : Program} {w : World} {A₀ A : Around} {E : Value → Shared → Prop} {s : Shared} {base h₀ : Heap} {outer : List Env} {L : Addr} {m : Str → Option Value} {env : Env} {K : Frag} {p : Program} {loose : List Str} {mean : ExcName → Option Value} {mg mb : Str → Option Value} {R : Result → Shared → Prop} {name qual : Str} {params : Arguments} {body : List Stmt} {scope : Scope} {dV kV doc pm cdv ct oc : Value} {an od : Option Addr} {osl : Array (Option Value)} {f : Addr} {args : Args} {binds : List (Str × Value)}
/-- entering a def, all that stands being kept -/
theorem enterP (B : Below A₀ base outer h₀) (F : Fr h₀ L s.heap m) (X₀ : K.In h₀) (T : Top p loose mean mg mb h₀) (hA : A.frames = some (env :: outer)) (hf : env.frame = some L) (hke : env.scope.kind = .function)
    (ho : K.lookup f = some ⟨oc, od, .func (fnOf name qual params body scope dV kV doc pm an cdv ct), osl⟩) (hcd : codeIn K cdv qual = true) (hroom : A.depth < recursionLimit)
    (hbind : BindsTo s (fnOf name qual params body scope dV kV doc pm an cdv ct) args binds) (hloc : ∀ y ∈ binds, scope.names.lookup y.1 = some .local)
    (h : ∀ L' h₁, Fr s.heap L' h₁ (fun y => binds.reverse.lookup y) → News s.heap L' h₁ [] → Below A base (env :: outer) s.heap → K.In s.heap → Top p loose mean mg mb s.heap →
      wpAny (model prog w) (A.deeper (envOf qual scope L' f cdv)) (execs body (envOf qual scope L' f cdv))
        (fun fl s' => LeaveK h₀ L m s.heap R (match fl with | .ret v => v | _ => .none) s')
        (fun e s' => wpAny (model prog w) (A.deeper (envOf qual scope L' f cdv)) (leaving (envOf qual scope L' f cdv) e) (fun _ s'' => R (.error e) s'') (fun e' s'' => R (.error e') s'') s')
        { s with heap := h₁, toks := s.toks + binds.length })
    (hco : scope.isCoroutine = false) (hgen : scope.isGenerator = false) (hk : scope.kind = .function)
    (hcell : ∀ x ∈ scope.names, x.2 ≠ .cell) : codeAny (model prog w) A (.call (.ref f) args) R s := by
  obtain ⟨FG, BG, st, lv⟩ := groundX (R := R) (news := []) B F News.nil hA hf hke
  refine codeAny_call_def (fd := fnX name qual params body scope [] dV kV doc pm an cdv ct) (body := body) (binds := binds) hroom ((X₀.keeps F.keep) _ _ ho) rfl (T.nolimit.keeps F.keep) (codeRec_of (X₀.keeps F.keep) hcd) rfl hbind hcell hloc (fun h₁ hns hk₁ => ?_) hco hgen hk
  exact wpAny_mono (h s.heap.objs.size h₁ ⟨hns, fun b o e => hk₁ b o e, Nat.le_refl _⟩ News.nil BG (X₀.keeps st) (T.keeps st)) (fun fl s' hl => lv _ _ hl) fun _ _ y => y

/-- the same, of a def whose locals are captured -/
theorem enterC (B : Below A₀ base outer h₀) (F : Fr h₀ L s.heap m) (X₀ : K.In h₀) (T : Top p loose mean mg mb h₀) (hA : A.frames = some (env :: outer)) (hf : env.frame = some L) (hke : env.scope.kind = .function)
    (ho : K.lookup f = some ⟨oc, od, .func (fnOf name qual params body scope dV kV doc pm an cdv ct), osl⟩) (hcd : codeIn K cdv qual = true) (hroom : A.depth < recursionLimit)
    (hbind : BindsTo s (fnOf name qual params body scope dV kV doc pm an cdv ct) args binds) (hkind : (binds.all fun y => scope.names.lookup y.1 == some .local || scope.names.lookup y.1 == some .cell) = true)
    (hnd : ((cellsFrom 0 scope.names []).map (·.1)).Nodup)
    (h : ∀ L' h₁ tk cells, Fr s.heap L' h₁ (bindL (envOfC qual scope L' f cdv).kindOf binds fun _ => none) → News s.heap L' h₁ cells →
      CellsAre (bindC (envOfC qual scope L' f cdv).kindOf binds fun _ => none) (cellsFrom (L' + 1) scope.names []) cells → Below A base (env :: outer) s.heap → K.In s.heap → Top p loose mean mg mb s.heap →
      wpAny (model prog w) (A.deeper (envOfC qual scope L' f cdv)) (execs body (envOfC qual scope L' f cdv))
        (fun fl s' => LeaveK h₀ L m s.heap R (match fl with | .ret v => v | _ => .none) s')
        (fun e s' => wpAny (model prog w) (A.deeper (envOfC qual scope L' f cdv)) (leaving (envOfC qual scope L' f cdv) e) (fun _ s'' => R (.error e) s'') (fun e' s'' => R (.error e') s'') s')
        { s with heap := h₁, toks := tk })
    (hco : scope.isCoroutine = false) (hgen : scope.isGenerator = false) (hk : scope.kind = .function) : codeAny (model prog w) A (.call (.ref f) args) R s := by
  obtain ⟨FG, BG, st, lv⟩ := groundX (R := R) (news := []) B F News.nil hA hf hke
  refine codeAny_call_function hroom ((X₀.keeps F.keep) _ _ ho) rfl hco hgen rfl (codeRec_of (X₀.keeps F.keep) hcd) (hbind _ _ _ _ ?_)
  refine wpAny_newFunctionEnv_cells hk (kindsX hkind _) fun env' he s' x => ?_
  subst he
  refine ⟨(T.nolimit.keeps F.keep).keeps x.toInCall.keep, codeAny_func ?_⟩
  obtain ⟨h₁, tk, rfl, _⟩ := x.done
  have hk₁ := x.toInCall.keep
  obtain ⟨cells, NC, Y⟩ := Cl.news (h₀ := s.heap) (Nat.le_refl _) fun n c hm => ⟨x.cell n c (lookup_of_mem_nodup (cellsFrom_names scope.names 0 (s.heap.objs.size + 1) [] [] rfl ▸ hnd) hm), x.above n c hm⟩
  exact wpAny_mono (h s.heap.objs.size h₁ tk cells ⟨x.toInCall.ns, fun b o e => hk₁ b o e, Nat.le_refl _⟩ NC Y BG (X₀.keeps st) (T.keeps st)) (fun fl s' hl => lv _ _ hl) fun _ _ y => y

theorem off1_of {r : Addr} : ∀ {l : List (Addr × Obj)}, (∀ p ∈ l, p.1 ≠ r) → LCg.Off1 r l
  | [], _ => trivial
  | _ :: _, h => ⟨h _ List.mem_cons_self, off1_of fun p hp => h p (List.mem_cons_of_mem _ hp)⟩
/-- what a pure call leaves to its caller -/
theorem after1 {h h' : Heap} {news : List (Addr × Obj)} {r : Addr} {o : Obj} (F : Fr h₀ L h m) (N : News h₀ L h news) (k : ∀ b o, h.get? b = some o → h'.get? b = some o) (hr : h.get? r = none) (hr' : h'.get? r = some o) :
    Fr h₀ L h' m ∧ News h₀ L h' ((r, o) :: news) ∧ LCg.Off1 r news := by
  refine ⟨F.keeps k, fun q hq => ?_, off1_of fun q hq e => ?_⟩
  · rcases List.mem_cons.mp hq with rfl | hq
    · refine ⟨hr', fun e => ?_, ?_⟩
      · obtain ⟨oL, _, _, hL, _⟩ := F.ns
        dsimp only at e
        rw [e, hL] at hr; cases hr
      · cases e : h₀.get? r with
        | none => rfl
        | some x => rw [F.keep _ _ e] at hr; cases hr
    · exact ⟨k _ _ (N q hq).1, (N q hq).2⟩
  · have := (N q hq).1
    rw [e, hr] at this; cases this
theorem afterM {h h' : Heap} {news news' : List (Addr × Obj)} {r : Addr} {o o' : Obj} (F : Fr h₀ L h m) (N : News h₀ L h news) (U : Upd r o o' news news') (k : ∀ b ob, b ≠ r → h.get? b = some ob → h'.get? b = some ob) (hr : h'.get? r = some o') :
    Fr h₀ L h' m ∧ News h₀ L h' news' := by
  obtain ⟨pre, post, rfl, rfl, ha, hb⟩ := U.split
  have D := N (r, o) (by simp)
  refine ⟨⟨F.ns.at' fun ob e => k _ ob (Ne.symm D.2.1) e, fun b ob e => k b ob (fun q => by rw [q, D.2.2] at e; cases e) (F.keep b ob e), F.above⟩, fun p hp => ?_⟩
  rcases List.mem_append.mp hp with q | q
  · have P := N p (List.mem_append_left _ q); exact ⟨k _ _ (ha p q) P.1, P.2⟩
  · rcases List.mem_cons.mp q with rfl | q
    · exact ⟨hr, D.2⟩
    · have P := N p (List.mem_append_right _ (.tail _ q)); exact ⟨k _ _ (hb p q) P.1, P.2⟩
theorem after0 {h h' : Heap} {news : List (Addr × Obj)} (F : Fr h₀ L h m) (N : News h₀ L h news) (k : ∀ b o, h.get? b = some o → h'.get? b = some o) :
    Fr h₀ L h' m ∧ News h₀ L h' news := ⟨F.keeps k, N.grown k⟩
end
section
section
variable {h₀ h : Heap} {L : Addr}
theorem gname {H g : Heap} {adr : List Addr} (_ : GSub H g adr) : ∃ x, x = g := ⟨g, rfl⟩
theorem addr1 {a : Addr} {o : Obj} {r : List (Addr × Obj)} (_ : News h₀ L h ((a, o) :: r)) : ∃ x, x = a := ⟨a, rfl⟩
theorem addr3 {a a1 a2 : Addr} {o1 o2 : Obj} {vs : List Value} {n : Nat} {r : List (Addr × Obj)} (_ : News h₀ L h ((a1, o1) :: (a2, o2) :: (a, listOf vs.toArray n) :: r)) : ∃ x xs k, x = a ∧ xs = vs ∧ k = n := ⟨a, vs, n, rfl, rfl, rfl⟩
end
theorem sub_move {q1 q2 x : Addr × Obj} {own : List (Addr × Obj)} : ∀ p ∈ q1 :: q2 :: own, p ∈ q1 :: x :: q2 :: own := by
  intro p hp
  rcases List.mem_cons.mp hp with rfl | hp
  · exact .head _
  · exact .tail _ (.tail _ hp)
theorem sub_all {l : List (Addr × Obj)} : ∀ p ∈ l, p ∈ l := fun _ hp => hp
theorem sub_one {q1 q2 : Addr × Obj} {own : List (Addr × Obj)} : ∀ p ∈ [q2], p ∈ q1 :: q2 :: own := by
  intro p hp
  rw [List.mem_singleton.mp hp]
  exact .tail _ (.head _)
theorem sub_own {q1 q2 : Addr × Obj} {own : List (Addr × Obj)} : ∀ p ∈ own, p ∈ q1 :: q2 :: own := fun _ hp => .tail _ (.tail _ hp)
def costV : Value → Int
  | .bytes bs _ => 2 + max 4 (bs.size : Int)
  | _ => 0
def IsBytes (v : Value) : Prop := ∃ bs t, v = .bytes bs t ∧ bs.size < 2 ^ 20
/-- a comprehension by an invariant -/
theorem rest_ind {prog : Program} {w : World} {A : Around} {h₀ : Heap} {L : Addr} {m : Str → Option Value} {env : Env} {elt : Expr} {x : Str} {scope : Scope} {cl : List (Str × Addr)} {s : Shared} {S : List (Addr × Obj) → Prop} {P : Nat → Value → Prop} {Fin : List Value → List (Addr × Obj) → Prop} {n : Nat} {news : List (Addr × Obj)}
    (Inv : Nat → List Value → List (Addr × Obj) → Prop) (h0 : Inv 0 [] news)
    (step : ∀ i ys nx v I oI C oC D m₂ h tk (E' : Value → Shared → Prop), i < n → Inv i ys nx → P i v → LCg.NsObj oC m₂ → m₂ x = some v → Fr h₀ L h m → News h₀ L h ((I, oI) :: (C, oC) :: (D, LCg.lst ys) :: nx) → LCg.Off3 I C D nx → ((@Ne Nat I C) ∧ (@Ne Nat I D) ∧ (@Ne Nat C D)) →
      wpAny (model prog w) A (eval elt (compEnvC scope cl C env)) (LCg.CompEnd h₀ L m { s with heap := h, toks := tk } I oI C oC D (LCg.lst ys) S (fun y nx' => Inv (i + 1) (ys ++ [y]) nx')) E' { s with heap := h, toks := tk })
    (fin : ∀ ys nx, Inv n ys nx → Fin ys nx) : LCg.CompRest prog w A h₀ L m env elt x scope cl s S P Fin n 0 [] news := by
  have key : ∀ (j i : Nat) (ys : List Value) (nx : List (Addr × Obj)), i + j = n → Inv i ys nx → LCg.CompRest prog w A h₀ L m env elt x scope cl s S P Fin j i ys nx := by
    intro j
    induction j with
    | zero =>
      intro i ys nx hi hv
      have e : i = n := by omega
      subst e
      exact LCg.CompRest.zero (fin ys nx hv)
    | succ j ih =>
      intro i ys nx hi hv
      refine LCg.CompRest.succ ?_
      intro v I oI C oC D m₂ h tk E' hp hC hx F N off ne
      refine wpAny_mono (step i ys nx v I oI C oC D m₂ h tk E' (by omega) hv hp hC hx F N off ne) (fun y s₂ hq => ?_) fun _ _ e => e
      obtain ⟨h', tk', nw, e, F', N', off', hS, hr⟩ := hq
      exact ⟨h', tk', nw, e, F', N', off', hS, ih (i + 1) _ nw (by omega) hr⟩
  exact key n 0 [] news (by omega) h0
theorem newsName {h₀ h : Heap} {L : Addr} {l : List (Addr × Obj)} (_ : News h₀ L h l) : ∃ x, x = l := ⟨l, rfl⟩
theorem item_of {vs : List Value} {i : Nat} {v : Value} (h : vs.toArray[i]? = some v) : i < vs.length ∧ v ∈ vs ∧ vs[i]? = some v := by
  have h' : vs[i]? = some v := by simpa using h
  obtain ⟨hi, e⟩ := List.getElem?_eq_some_iff.mp h'
  exact ⟨hi, e ▸ List.getElem_mem hi, h'⟩
theorem einvName {b : Bool} {room : Int} {co es : List Int} {len j : Nat} (_ : EInv b room co len j es) : ∃ x, x = es := ⟨es, rfl⟩
def slice (vs : List Value) (b : Bool) (fs : List Int) (k : Nat) : List Value := (vs.take (eAt fs k).toNat).drop (sAt b fs k).toNat
def pgObj (vs : List Value) (b : Bool) (fs : List Int) (k : Nat) (q : Addr × Nat) : Addr × Obj := (q.1, listOf (slice vs b fs k).toArray q.2)
def pagesL (vs : List Value) (b : Bool) (fs : List Int) (po : List (Addr × Nat)) : List (Addr × Obj) := po.mapIdx (pgObj vs b fs)
theorem pagesL_snoc {vs : List Value} {b : Bool} {fs : List Int} {po : List (Addr × Nat)} {q : Addr × Nat} : pagesL vs b fs (po ++ [q]) = pagesL vs b fs po ++ [pgObj vs b fs po.length q] := by
  unfold pagesL
  rw [List.mapIdx_append]
  simp
theorem pick_slice {vs : List Value} {i j : Int} (h0 : 0 ≤ i) (h1 : i ≤ j) (h2 : j ≤ (vs.length : Int)) : slicePick vs.toArray (some i) (some j) none = ((vs.take j.toNat).drop i.toNat).toArray := by
  have e1 : i = (i.toNat : Int) := by omega
  have e2 : j = (j.toNat : Int) := by omega
  have h := slicePick_run vs.toArray i.toNat j.toNat (by rw [List.size_toArray]; omega) (by omega)
  rw [← e1, ← e2] at h
  rw [h, List.drop_take]
theorem off3_snoc {I C D : Addr} {l : List (Addr × Obj)} {p : Addr × Obj} (h : LCg.Off3 I C D l) (h1 : p.1 ≠ I) (h2 : p.1 ≠ C) (h3 : p.1 ≠ D) : LCg.Off3 I C D (l ++ [p]) := by
  refine LCg.Off3.of fun q hq => ?_
  rcases List.mem_append.mp hq with hq | hq
  · exact h.mem q hq
  · rw [List.mem_singleton.mp hq]; exact ⟨h1, h2, h3⟩
theorem sub_pages {q1 q2 q3 x : Addr × Obj} {l tl : List (Addr × Obj)} : ∀ p ∈ q1 :: q2 :: q3 :: (l ++ (tl ++ [x])), p ∈ x :: q1 :: q2 :: q3 :: (l ++ tl) := by
  intro p hp
  simp only [List.mem_cons, List.mem_append, List.not_mem_nil, or_false] at hp ⊢
  rcases hp with h | h | h | h | h | h
  · exact .inr (.inl h)
  · exact .inr (.inr (.inl h))
  · exact .inr (.inr (.inr (.inl h)))
  · exact .inr (.inr (.inr (.inr (.inl h))))
  · exact .inr (.inr (.inr (.inr (.inr h))))
  · exact .inl h
theorem n8 {h₀ h : Heap} {L : Addr} {x q1 q2 q3 : Addr × Obj} {l tl l' : List (Addr × Obj)} (N : News h₀ L h (x :: q1 :: q2 :: q3 :: l')) (e : l' = l ++ tl) : News h₀ L h (x :: q1 :: q2 :: q3 :: (l ++ tl)) := e ▸ N
structure ByList (h : Heap) (l : Addr) (vs : List Value) : Prop where
  is : h.IsList l vs.toArray
theorem byList {h : Heap} {l : Addr} {vs : List Value} (x : h.IsList l vs.toArray) : ByList h l vs := ⟨x⟩
theorem item_any {prog : Program} {w : World} {A : Around} {E : Value → Shared → Prop} {s : Shared} {value sl : Expr} {l : Addr} {vs : List Value} {k : Int} {u : Tok} {Q : Value → Shared → Prop}
    (hl : s.heap.IsList l vs.toArray) (h0 : 0 ≤ k) (hk : k < (vs.length : Int)) (hhi : k < 2 ^ 63) (h : Q (vs.getD k.toNat .none) s)
    (hs : subscripted sl false (.ref l) (.int k u) = operate [.ref l, .int k u] (getItem (.ref l) (.int k u)) := by with_unfolding_all rfl) :
    wpAny (model prog w) A (subscriptTail value sl (.ref l) (.int k u)) Q E s := by
  refine tail_any hl.typeIs slot_list_getitem.lookup (wpAny_getItem_list hl h0 hhi (x := vs.getD k.toNat .none) ?_ h) hs
  have hn : k.toNat < vs.length := by omega
  rw [List.getElem?_toArray, List.getElem?_eq_getElem hn, List.getD_eq_getElem?_getD, List.getElem?_eq_getElem hn]
  rfl
theorem item_by {prog : Program} {w : World} {A : Around} {E : Value → Shared → Prop} {s : Shared} {value sl : Expr} {h₀ : Heap} {L l : Addr} {m : Str → Option Value} {vs : List Value} {k : Int} {u : Tok} {Q : Value → Shared → Prop}
    (F : Fr h₀ L s.heap m) (hl : ByList h₀ l vs) (h0 : 0 ≤ k) (hk : k < (vs.length : Int)) (hhi : k < 2 ^ 63) (h : Q (vs.getD k.toNat .none) s)
    (hs : subscripted sl false (.ref l) (.int k u) = operate [.ref l, .int k u] (getItem (.ref l) (.int k u)) := by with_unfolding_all rfl) :
    wpAny (model prog w) A (subscriptTail value sl (.ref l) (.int k u)) Q E s := item_any (Heap.IsList.at hl.is fun o e => F.keep l o e) h0 hk hhi h hs
theorem item_news {prog : Program} {w : World} {A : Around} {E : Value → Shared → Prop} {s : Shared} {value sl : Expr} {h₀ : Heap} {L l : Addr} {news : List (Addr × Obj)} {vs : List Value} {n : Nat} {k : Int} {u : Tok} {Q : Value → Shared → Prop}
    (N : News h₀ L s.heap news) (hm : (l, listOf vs.toArray n) ∈ news) (h0 : 0 ≤ k) (hk : k < (vs.length : Int)) (hhi : k < 2 ^ 63) (h : Q (vs.getD k.toNat .none) s)
    (hs : subscripted sl false (.ref l) (.int k u) = operate [.ref l, .int k u] (getItem (.ref l) (.int k u)) := by with_unfolding_all rfl) :
    wpAny (model prog w) A (subscriptTail value sl (.ref l) (.int k u)) Q E s := item_any ⟨_, (N _ hm).1, rfl, n, rfl⟩ h0 hk hhi h hs
def midsOf (vs : List Value) (b : Bool) (fs : List Int) : List Value := if b then fs.dropLast.map (fun e => vs.getD e.toNat .none) else []
theorem finN1 {h₀ h : Heap} {L t pg md : Addr} {ys2 ys3 : List Value} {x : Addr × Obj} {r tl : List (Addr × Obj)}
    (N : News h₀ L h ((t, ({ cls := .type "tuple", data := .seq #[.ref pg, .ref md] } : Obj)) :: (md, LCg.lst ys3) :: x :: (pg, LCg.lst ys2) :: r)) (hs : ∀ p ∈ tl, p ∈ r) :
    ∀ p ∈ (t, ({ cls := .type "tuple", data := .seq #[.ref pg, .ref md] } : Obj)) :: (pg, listOf ys2.toArray ys2.length) :: (md, listOf ys3.toArray ys3.length) :: tl, h₀.get? p.1 = none ∧ h.get? p.1 = some p.2 := by
  intro p hp
  rcases List.mem_cons.mp hp with rfl | hp
  · exact ⟨(N _ (.head _)).2.2, (N _ (.head _)).1⟩
  rcases List.mem_cons.mp hp with rfl | hp
  · exact ⟨(N _ (.tail _ (.tail _ (.tail _ (.head _))))).2.2, (N _ (.tail _ (.tail _ (.tail _ (.head _))))).1⟩
  rcases List.mem_cons.mp hp with rfl | hp
  · exact ⟨(N _ (.tail _ (.head _))).2.2, (N _ (.tail _ (.head _))).1⟩
  have hm := N p (.tail _ (.tail _ (.tail _ (.tail _ (hs p hp)))))
  exact ⟨hm.2.2, hm.1⟩
theorem finN0 {h₀ h : Heap} {L t pg md : Addr} {ys2 : List Value} {r tl : List (Addr × Obj)}
    (N : News h₀ L h ((t, ({ cls := .type "tuple", data := .seq #[.ref pg, .ref md] } : Obj)) :: (md, listOf #[] 0) :: (pg, LCg.lst ys2) :: r)) (hs : ∀ p ∈ tl, p ∈ r) :
    ∀ p ∈ (t, ({ cls := .type "tuple", data := .seq #[.ref pg, .ref md] } : Obj)) :: (pg, listOf ys2.toArray ys2.length) :: (md, listOf (List.toArray []) 0) :: tl, h₀.get? p.1 = none ∧ h.get? p.1 = some p.2 := by
  intro p hp
  rcases List.mem_cons.mp hp with rfl | hp
  · exact ⟨(N _ (.head _)).2.2, (N _ (.head _)).1⟩
  rcases List.mem_cons.mp hp with rfl | hp
  · exact ⟨(N _ (.tail _ (.tail _ (.head _)))).2.2, (N _ (.tail _ (.tail _ (.head _)))).1⟩
  rcases List.mem_cons.mp hp with rfl | hp
  · exact ⟨(N _ (.tail _ (.head _))).2.2, (N _ (.tail _ (.head _))).1⟩
  have hm := N p (.tail _ (.tail _ (.tail _ (hs p hp))))
  exact ⟨hm.2.2, hm.1⟩

end
section
theorem slice_len {vs : List Value} {b : Bool} {fs : List Int} {k : Nat} (h0 : 0 ≤ sAt b fs k) (h1 : sAt b fs k ≤ eAt fs k) (h2 : eAt fs k ≤ (vs.length : Int)) : ((slice vs b fs k).length : Int) = eAt fs k - sAt b fs k := by
  unfold slice
  rw [List.length_drop, List.length_take]
  omega
theorem slice_sum {vs : List Value} {b : Bool} {fs : List Int} {k : Nat} (h0 : 0 ≤ sAt b fs k) (h1 : sAt b fs k ≤ eAt fs k) : ((slice vs b fs k).map costV).sum = csum b (vs.map costV) fs k := by
  unfold slice csum
  rw [List.map_drop, List.map_take, sum_slice h0 h1]
theorem slice_mem {vs : List Value} {b : Bool} {fs : List Int} {k : Nat} {v : Value} (h : v ∈ slice vs b fs k) : v ∈ vs := List.mem_of_mem_take (List.mem_of_mem_drop h)
theorem getD_map {vs : List Value} {i : Nat} (h : i < vs.length) : (vs.map costV).getD i 0 = costV (vs.getD i .none) := by
  rw [List.getD_eq_getElem?_getD, List.getElem?_map, List.getElem?_eq_getElem h, List.getD_eq_getElem?_getD, List.getElem?_eq_getElem h]
  rfl
theorem getD_mem {vs : List Value} {i : Nat} (h : i < vs.length) : vs.getD i .none ∈ vs := by
  rw [List.getD_eq_getElem?_getD, List.getElem?_eq_getElem h]
  exact List.getElem_mem h
theorem slice_last {vs : List Value} {b : Bool} {fs : List Int} {k : Nat} (h0 : 0 ≤ sAt b fs k) (h1 : sAt b fs k < eAt fs k) (h2 : eAt fs k ≤ (vs.length : Int)) :
    (slice vs b fs k).getD ((-1 : Int) + ((slice vs b fs k).length : Int)).toNat .none = vs.getD (eAt fs k - 1).toNat .none := by
  have hl := slice_len h0 (Int.le_of_lt h1) h2
  rw [hl]
  unfold slice
  rw [List.getD_eq_getElem?_getD, List.getD_eq_getElem?_getD, List.getElem?_drop, List.getElem?_take, if_pos (by omega)]
  congr 2
  omega
section
variable {prog : Program} {w : World} {A : Around} {E : Value → Shared → Prop} {s : Shared} {value sl : Expr} {h₀ : Heap} {L l : Addr} {m : Str → Option Value} {v v1 : Value} {vs : List Value} {k : Int} {u : Tok} {Q : Value → Shared → Prop}
theorem item_0 (F : Fr h₀ L s.heap m) (hl : ByList h₀ l (v :: vs)) (h : Q v s)
    (hs : subscripted sl false (.ref l) (.int 0 u) = operate [.ref l, .int 0 u] (getItem (.ref l) (.int 0 u)) := by with_unfolding_all rfl) :
    wpAny (model prog w) A (subscriptTail value sl (.ref l) (.int 0 u)) Q E s := item_by F hl (Int.le_refl _) (by rw [List.length_cons]; omega) (by decide) h hs
theorem item_1 (F : Fr h₀ L s.heap m) (hl : ByList h₀ l (v :: v1 :: vs)) (h : Q v1 s)
    (hs : subscripted sl false (.ref l) (.int 1 u) = operate [.ref l, .int 1 u] (getItem (.ref l) (.int 1 u)) := by with_unfolding_all rfl) :
    wpAny (model prog w) A (subscriptTail value sl (.ref l) (.int 1 u)) Q E s := item_by F hl (by decide) (by rw [List.length_cons, List.length_cons]; omega) (by decide) h hs
theorem len_by (F : Fr h₀ L s.heap m) (hl : ByList h₀ l vs) (hfit : vs.length < 2 ^ 21) (h : Q (.int (vs.length : Nat) (s.toks + 1)) { s with toks := s.toks + 1 + 1 }) : wpAny (model prog w) A (call (.builtin "len") [.ref l]) Q E s := by
  have hl' : s.heap.IsList l vs.toArray := Heap.IsList.at hl.is fun o e => F.keep l o e
  exact Calls.call_len_list hl' (by rw [List.size_toArray]; omega) (by rw [List.size_toArray]; exact h)
end
theorem getLastD {vs : List Value} (hne : 0 < vs.length) : vs[vs.length - 1]? = some (vs.getD (vs.length - 1) .none) := by
  have hn : vs.length - 1 < vs.length := by omega
  rw [List.getElem?_eq_getElem hn, List.getD_eq_getElem?_getD, List.getElem?_eq_getElem hn]
  rfl
theorem item_last {prog : Program} {w : World} {A : Around} {E : Value → Shared → Prop} {s : Shared} {value sl : Expr} {h₀ : Heap} {L l : Addr} {m : Str → Option Value} {vs : List Value} {u : Tok} {Q : Value → Shared → Prop}
    (F : Fr h₀ L s.heap m) (hl : ByList h₀ l vs) (hne : 0 < vs.length) (h : Q (vs.getD (vs.length - 1) .none) s)
    (hs : subscripted sl false (.ref l) (.int (-1) u) = operate [.ref l, .int (-1) u] (getItem (.ref l) (.int (-1) u)) := by with_unfolding_all rfl) :
    wpAny (model prog w) A (subscriptTail value sl (.ref l) (.int (-1) u)) Q E s := by
  have hl' : s.heap.IsList l vs.toArray := Heap.IsList.at hl.is fun o e => F.keep l o e
  refine kde_neg hl' (by decide) (by decide) (j := vs.length - 1) ?_ (getLastD hne) h hs
  unfold seqIndex?
  simp
  omega
/-- a comprehension of costs -/
theorem cost_rest {prog : Program} {w : World} {A : Around} {h₀ : Heap} {L : Addr} {m : Str → Option Value} {env : Env} {elt : Expr} {x : Str} {scope : Scope} {cl : List (Str × Addr)} {s : Shared} {S : List (Addr × Obj) → Prop} {Fin : List Value → List (Addr × Obj) → Prop} {news : List (Addr × Obj)} {vs : List Value}
    (hB : ∀ v ∈ vs, IsBytes v)
    (turn : ∀ ys I oI C oC D m₂ h tk (E' : Value → Shared → Prop) bs t, bs.size < 2 ^ 20 → LCg.NsObj oC m₂ → m₂ x = some (.bytes bs t) → Fr h₀ L h m → News h₀ L h ((I, oI) :: (C, oC) :: (D, LCg.lst ys) :: news) → LCg.Off3 I C D news → ((@Ne Nat I C) ∧ (@Ne Nat I D) ∧ (@Ne Nat C D)) →
      wpAny (model prog w) A (eval elt (compEnvC scope cl C env)) (LCg.CompEnd h₀ L m { s with heap := h, toks := tk } I oI C oC D (LCg.lst ys) S (fun y nx' => nx' = news ∧ ∃ t', y = .int (2 + max 4 (bs.size : Int)) t')) E' { s with heap := h, toks := tk })
    (fin : ∀ ys, IntsAre ys (vs.map costV) → Fin ys news) : LCg.CompRest prog w A h₀ L m env elt x scope cl s S (fun i v => vs.toArray[i]? = some v) Fin vs.toArray.size 0 [] news := by
  refine rest_ind (fun i ys nx => nx = news ∧ IntsAre ys ((vs.take i).map costV)) ⟨rfl, by rw [List.take_zero]; exact .nil⟩ ?_ ?_
  · rintro i ys nx v I oI C oC D m₂ h tk E' hi ⟨hnx, hI⟩ hv hC hx F N off ne
    subst hnx
    obtain ⟨hi', hv1, hv2⟩ := item_of hv
    obtain ⟨bs, t, rfl, hb⟩ := hB v hv1
    refine wpAny_mono (turn ys I oI C oC D m₂ h tk E' bs t hb hC hx F N off ne) (fun y s₂ hq => ?_) fun _ _ e => e
    obtain ⟨h', tk', nw, e, F', N', off', hS, hn, t', hy⟩ := hq
    refine ⟨h', tk', nw, e, F', N', off', hS, hn, ?_⟩
    rw [hy, List.take_add_one, hv2, List.map_append]
    exact hI.append (.cons _ _ .nil)
  · rintro ys nx ⟨hnx, hI⟩
    rw [List.size_toArray, List.take_length] at hI
    rw [hnx]
    exact fin ys hI
theorem byte_get {vs : List Value} (hB : ∀ v ∈ vs, IsBytes v) {i : Nat} (h : i < vs.length) : ∃ bs t, vs.getD i .none = .bytes bs t ∧ bs.size < 2 ^ 20 := hB _ (getD_mem h)

end
section
def TurnPost (h₀ : Heap) (L : Addr) (J : (Str → Option Value) → List (Addr × Obj) → Prop) (I : Addr) (oI : Obj) (s₁ : Shared) (Q : Flow → Shared → Prop) (f : Flow) (s₂ : Shared) : Prop :=
  match f with
  | .ret v => Q (.ret v) s₂
  | .brk => Q .next s₂
  | _ => ∃ h' tk m' nx, s₂ = { s₁ with heap := h', toks := tk } ∧ Fr h₀ L h' m' ∧ News h₀ L h' ((I, oI) :: nx) ∧ (∀ p ∈ nx, p.1 ≠ I) ∧ J m' nx
section
variable {prog : Program} {w : World} {A : Around} {E : Value → Shared → Prop} {s : Shared} {env : Env} {h₀ : Heap} {x : Str} {body : List Stmt} {Q : Flow → Shared → Prop}
/-- a loop over a range whose turns may bind a name to a new object -/
theorem kstA_range {σ : Type} {r : Addr} {b₀ : Int} {t₀ u₀ v₀ : Tok} {n : Nat} {m₀ : Str → Option Value} (Led : σ → List (Addr × Obj)) (ps : σ → List (Str × Value)) (Facts : σ → Prop) (stored : List Str) (P : Nat → σ → Prop) (c₀ : σ)
    (hh : A.handled = none) (hr : IsRange s.heap r 0 b₀ 1 t₀ u₀ v₀) (hsmall : Builtin.Range.small 0 b₀ 1 = true) (hn : Builtin.Range.rangeSize 0 b₀ 1 = (n : Int)) (F : Fr h₀ env.locals s.heap m₀) (N : News h₀ env.locals s.heap (Led c₀)) (hf : Facts c₀) (hk : ∀ p ∈ ps c₀, m₀ p.1 = some p.2) (hp : P 0 c₀)
    (turn : ∀ (c : σ) (i : Nat) (k : Int) t (u : Str → Option Value) h tk I oI, k = (i : Int) → i < n → (∀ p ∈ Led c, p.1 ≠ I) → Facts c → P i c →
      Fr h₀ env.locals h (fun y => if y = x then some (.int k t) else kstB (fun z => if stored.contains z then u z else m₀ z) (ps c) y) → News h₀ env.locals h ((I, oI) :: Led c) →
      wpAny (model prog w) A (execs body env) (TurnPost h₀ env.locals (KstS Led ps Facts x stored m₀ (fun _ => P (i + 1)) []) I oI { s with heap := h, toks := tk } Q) E { s with heap := h, toks := tk })
    (done : ∀ (c : σ) (u : Str → Option Value) h tk, Facts c → P n c → Fr h₀ env.locals h (fun y => if y = x then u y else kstB (fun z => if stored.contains z then u z else m₀ z) (ps c) y) → News h₀ env.locals h (Led c) → Q .next { s with heap := h, toks := tk }) :
    wpAny (model prog w) A (pyIter (.ref r)) (fun it s₂ => LoopAtV prog w A h₀ env x body Q E it s₂) E s := by
  refine wpAny_pyIter_range hr hsmall ?_
  have W : Walks prog w A s.heap.objs.size [s.heap.objs.size] [s.heap.objs.size] n (fun i v => i < n ∧ ∃ t, v = .int (0 + i * 1) t)
      (fun i h => IsRangeIter h s.heap.objs.size (0 + (i : Nat) * 1) ((n : Int) - (i : Nat)) 1) := (Walks.range hh _ 0 1 n).bound
  refine ⟨s.heap.objs.size, [s.heap.objs.size], [s.heap.objs.size], n, _, _, m₀, Led c₀, fun i m nx => KstS Led ps Facts x stored m₀ (fun _ => P i) [] m nx, rfl, W, ?_, ?_, ?_, ?_, F.push _, fun p hp => ⟨Heap.get?_push_of_some _ (N p hp).1, (N p hp).2⟩, ⟨c₀, rfl, hf, hk, fun _ _ _ _ => rfl, hp⟩, ?_, ?_⟩
  · intro hm
    exact absurd F.ns.lt ((List.mem_singleton.mp hm) ▸ Nat.lt_irrefl _)
  · intro b hb
    rw [List.mem_singleton.mp hb]
    exact next_is_new F
  · intro p hp hI
    exact absurd (Heap.lt_size (N p hp).1) ((List.mem_singleton.mp hI) ▸ Nat.lt_irrefl _)
  · show IsRangeIter _ _ _ _ _
    rw [hn]; simpa using Heap.get?_push_size _ rfl
  · rintro i v m₁ nx s₁ own ⟨h, tk, rfl⟩ _ ⟨hin, t, rfl⟩ ⟨c, rfl, hf', h1, h2, hp'⟩ hoff hown hown2 hown3 hst F₁ N₁
    have e1 : (0 : Int) + (i : Int) * 1 = (i : Int) := by omega
    rw [e1] at F₁
    have hI : ∀ p ∈ own, p = (s.heap.objs.size, ({ cls := .type "range_iterator", dict := none, data := .fields #[rawInt (0 + ((i + 1 : Nat) : Int) * 1), rawInt ((n : Int) - ((i + 1 : Nat) : Int)), rawInt 1], slots := #[] } : Obj)) := by
      intro p hp
      have a1 := List.mem_singleton.mp (hown p hp)
      have a2 := hown2 p hp
      rw [a1, hst] at a2
      obtain ⟨p1, p2⟩ := p
      dsimp only at a1 a2
      cases a2
      rw [a1]
    have hmem := hown3 s.heap.objs.size (List.mem_singleton.mpr rfl) (next_is_new F) _ hst
    have N₂ : News h₀ env.locals h ((s.heap.objs.size, ({ cls := .type "range_iterator", dict := none, data := .fields #[rawInt (0 + ((i + 1 : Nat) : Int) * 1), rawInt ((n : Int) - ((i + 1 : Nat) : Int)), rawInt 1], slots := #[] } : Obj)) :: Led c) := fun p hp => by
      rcases List.mem_cons.mp hp with rfl | hp
      · exact N₁ _ (List.mem_append_left _ hmem)
      · exact N₁ _ (List.mem_append_right _ hp)
    refine wpAny_mono (turn c i (i : Int) t m₁ h tk _ _ rfl hin (fun p hp e => hoff p hp (List.mem_singleton.mpr e)) hf' hp' (kst_fr h1 h2 F₁) N₂) (fun f s₂ p => ?_) fun _ _ e => e
    have fin : (∃ h' tk' m' nx, s₂ = { s with heap := h', toks := tk' } ∧ Fr h₀ env.locals h' m' ∧ News h₀ env.locals h' ((s.heap.objs.size, ({ cls := .type "range_iterator", dict := none, data := .fields #[rawInt (0 + ((i + 1 : Nat) : Int) * 1), rawInt ((n : Int) - ((i + 1 : Nat) : Int)), rawInt 1], slots := #[] } : Obj)) :: nx) ∧ (∀ p ∈ nx, p.1 ≠ s.heap.objs.size) ∧ KstS Led ps Facts x stored m₀ (fun _ => P (i + 1)) [] m' nx) → LoopStepU h₀ env.locals [s.heap.objs.size] own (fun m nx => KstS Led ps Facts x stored m₀ (fun _ => P (i + 1)) [] m nx) { s with heap := h, toks := tk } .next s₂ := by
      rintro ⟨h', tk', m', nx, e, F', N', hn, hJ⟩
      refine ⟨rfl, h', tk', m', nx, e, F', fun p hp => ?_, fun p hp hq => hn p hp (List.mem_singleton.mp hq), hJ⟩
      rcases List.mem_append.mp hp with hp | hp
      · rw [hI p hp]; exact N' _ (.head _)
      · exact N' _ (.tail _ hp)
    cases f with
    | ret v => exact .ret p
    | brk => exact .brk p
    | next => exact .next (fin p)
    | cont => exact .cont (fin p)
  · rintro h' tk m' nx F₁ N₁ _ ⟨c, rfl, hf', h1, h2, hp'⟩
    exact done c m' h' tk hf' hp' (kst_frOut h1 h2 F₁) N₁
theorem turn_end {σ : Type} {Led : σ → List (Addr × Obj)} {ps : σ → List (Str × Value)} {Facts : σ → Prop} {stored : List Str} {m₀ : Str → Option Value} {P : σ → Prop} (c : σ) {L : Addr} {m' : Str → Option Value} {news' : List (Addr × Obj)} {I : Addr} {oI : Obj} {s₁ : Shared} {h' : Heap} {tk : Nat}
    (F : Fr h₀ L h' m') (N : News h₀ L h' news') (hI : (I, oI) ∈ news') (hn : ∀ p ∈ Led c, p ∈ news') (hoff : ∀ p ∈ Led c, p.1 ≠ I) (hf : Facts c) (hk : ∀ p ∈ ps c, m' p.1 = some p.2) (hr : ∀ z, z ≠ x → (∀ p ∈ ps c, z ≠ p.1) → stored.contains z = false → m' z = m₀ z) (hp : P c) :
    TurnPost h₀ L (KstS Led ps Facts x stored m₀ (fun _ => P) []) I oI s₁ Q .next { s₁ with heap := h', toks := tk } :=
  ⟨h', tk, m', Led c, rfl, F, fun p hp => by
    rcases List.mem_cons.mp hp with rfl | hp
    · exact N _ hI
    · exact N _ (hn p hp), hoff, c, rfl, hf, hk, hr, hp⟩
end
section
variable {prog : Program} {w : World} {A : Around} {E : Value → Shared → Prop} {s : Shared} {h₀ : Heap} {L a b : Addr} {m : Str → Option Value} {news : List (Addr × Obj)} {vs ws : List Value} {k1 k2 : Nat} {Q : Value → Shared → Prop}
theorem add_news (F : Fr h₀ L s.heap m) (N : News h₀ L s.heap news) (ha : (a, listOf vs.toArray k1) ∈ news) (hb : (b, listOf ws.toArray k2) ∈ news)
    (h : ∀ D h', Fr h₀ L h' m → News h₀ L h' ((D, listOf (vs ++ ws).toArray 0) :: news) → (∀ p ∈ news, p.1 < D) → Q (.ref D) { s with heap := h' })
    (hz : vs.length + ws.length ≤ sizeLine) : wpAny (model prog w) A (binaryOp .Add (.ref a) (.ref b)) Q E s :=
  add_lists (hsz := hz) F N ⟨_, (N _ ha).1, rfl, _, rfl⟩ ⟨_, (N _ hb).1, rfl, _, rfl⟩ fun h' F' N' => h _ h' F' N' fun p hp => Heap.lt_size (N p hp).1
theorem page_item {value sl : Expr} {l : Addr} {po : List (Addr × Nat)} {n : Nat} {k : Int} {u : Tok} {q : Addr × Nat}
    (N : News h₀ L s.heap news) (hm : (l, listOf (po.map (fun q => Value.ref q.1)).toArray n) ∈ news) (hq : po[k.toNat]? = some q) (h0 : 0 ≤ k) (hhi : k < 2 ^ 63) (h : Q (.ref q.1) s)
    (hs : subscripted sl false (.ref l) (.int k u) = operate [.ref l, .int k u] (getItem (.ref l) (.int k u)) := by with_unfolding_all rfl) :
    wpAny (model prog w) A (subscriptTail value sl (.ref l) (.int k u)) Q E s := by
  have hk : k.toNat < po.length := (List.getElem?_eq_some_iff.mp hq).1
  refine item_news N hm h0 (by rw [List.length_map]; omega) hhi ?_ hs
  rw [List.getD_eq_getElem?_getD, List.getElem?_map, hq]
  exact h
theorem ne_same (N : News h₀ L s.heap news) (ha : (a, listOf vs.toArray k1) ∈ news) (hb : (b, listOf vs.toArray k2) ∈ news) (hu : A.units < cLine) (h : Q (.bool false) s) : wpAny (model prog w) A (compareOp .NotEq (.ref a) (.ref b)) Q E s := by
  refine SeqAt.RcNeAt.lists (e := fun _ => true) ⟨_, (N _ ha).1, rfl, _, rfl⟩ ⟨_, (N _ hb).1, rfl, _, rfl⟩ rfl hu (fun j _ _ => SeqAt.EqAt.same _) prog w E Q ?_
  have e : (List.range vs.toArray.size).all (fun _ => true) = true := List.all_eq_true.mpr fun _ _ => rfl
  rw [e]; exact h
theorem eq_nil (N : News h₀ L s.heap news) (ha : (a, listOf vs.toArray k1) ∈ news) (hb : (b, listOf #[] k2) ∈ news) (hne : 0 < vs.length) (hu : A.units < cLine) (h : Q (.bool false) s) : wpAny (model prog w) A (compareOp .Eq (.ref a) (.ref b)) Q E s := by
  refine SeqAt.RcAt.lists_lengths ⟨_, (N _ ha).1, rfl, _, rfl⟩ ⟨_, (N _ hb).1, rfl, _, rfl⟩ ?_ hu prog w E Q h
  rw [List.size_toArray]
  show (vs.length != 0) = true
  simp
  intro e
  rw [e] at hne
  exact absurd hne (Nat.lt_irrefl _)
end
/-- a test that no item passes -/
def NoneEnd (h₀ : Heap) (L : Addr) (m : Str → Option Value) (s : Shared) (I : Addr) (oI : Obj) (C : Addr) (oC : Obj) (D : Addr) (S : List (Addr × Obj) → Prop) (news : List (Addr × Obj)) (ok : Bool) (s' : Shared) : Prop :=
  ok = false ∧ LCg.CompEnd h₀ L m s I oI C oC D (LCg.lst []) S (fun _ nx => nx = news) Value.none s'
theorem restT_none {prog : Program} {w : World} {A : Around} {h₀ : Heap} {L : Addr} {m : Str → Option Value} {env : Env} {ct elt : Expr} {x : Str} {scope : Scope} {cl : List (Str × Addr)} {s : Shared} {S : List (Addr × Obj) → Prop} {P : Nat → Value → Prop} {Fin : List Value → List (Addr × Obj) → Prop} {n : Nat} {news : List (Addr × Obj)}
    (turn : ∀ i v I oI C oC D m₂ h tk (E' : Value → Shared → Prop), i < n → P i v → LCg.NsObj oC m₂ → m₂ x = some v → Fr h₀ L h m → News h₀ L h ((I, oI) :: (C, oC) :: (D, LCg.lst []) :: news) → LCg.Off3 I C D news → ((@Ne Nat I C) ∧ (@Ne Nat I D) ∧ (@Ne Nat C D)) →
      wpAny (model prog w) A (isTrue ct (compEnvC scope cl C env) (eval ct (compEnvC scope cl C env))) (NoneEnd h₀ L m { s with heap := h, toks := tk } I oI C oC D S news) E' { s with heap := h, toks := tk })
    (fin : Fin [] news) : LCt.CompRestT prog w A h₀ L m env ct elt x scope cl s S P Fin n 0 [] news := by
  have key : ∀ (j i : Nat), i + j = n → LCt.CompRestT prog w A h₀ L m env ct elt x scope cl s S P Fin j i [] news := by
    intro j
    induction j with
    | zero => intro i _; exact LCt.CompRestT.zero fin
    | succ j ih =>
      intro i hi
      refine LCt.CompRestT.succ ?_
      intro v I oI C oC D m₂ h tk E' hp hC hx F N off ne
      refine wpAny_mono (turn i v I oI C oC D m₂ h tk E' (by omega) hp hC hx F N off ne) (fun ok s₂ hq => ?_) fun _ _ e => e
      obtain ⟨rfl, h', tk', nw, e, F', N', off', hS, hr⟩ := hq
      rw [if_neg Bool.false_ne_true]
      refine ⟨h', tk', nw, e, F', N', off', hS, ?_⟩
      rw [hr]
      exact ih (i + 1) (by omega)
  exact key n 0 (by omega)
theorem none_end {h₀ h' : Heap} {L I C D : Addr} {m : Str → Option Value} {s₁ : Shared} {oI oC : Obj} {S : List (Addr × Obj) → Prop} {tk : Nat} {all news : List (Addr × Obj)}
    (F : Fr h₀ L h' m) (N : News h₀ L h' all) (sub : ∀ p ∈ (I, oI) :: (C, oC) :: (D, LCg.lst []) :: news, p ∈ all) (off : LCg.Off3 I C D news) (hS : S news) :
    NoneEnd h₀ L m s₁ I oI C oC D S news false { s₁ with heap := h', toks := tk } := ⟨rfl, LCg.CompEnd.intro F N news sub off hS rfl⟩
/-- the cells told so far -/
def told (vs : List Value) (b : Bool) (fs : List Int) (i : Nat) : List Value := vs.take (if i < fs.length then (sAt b fs i).toNat else vs.length)
theorem told_zero {vs : List Value} {b : Bool} {fs : List Int} (h : 0 < fs.length) : told vs b fs 0 = [] := by
  unfold told
  rw [if_pos h, sAt_zero]; rfl
theorem told_all {vs : List Value} {b : Bool} {fs : List Int} : told vs b fs fs.length = vs := by
  unfold told
  rw [if_neg (Nat.lt_irrefl _), List.take_length]
theorem told_page {vs : List Value} {b : Bool} {room : Int} {fs : List Int} {len i : Nat} (h : EInv b room (vs.map costV) len 1 fs) (hi : i < fs.length) : told vs b fs i ++ slice vs b fs i = vs.take (eAt fs i).toNat := by
  have hp := h.page i (by rw [← h.len_eq]; exact hi)
  unfold told slice
  rw [if_pos hi]
  have e : vs.take (sAt b fs i).toNat = (vs.take (eAt fs i).toNat).take (sAt b fs i).toNat := by
    rw [List.take_take]; congr 1; omega
  rw [e, List.take_append_drop]
theorem told_last {vs : List Value} {b : Bool} {room : Int} {fs : List Int} {len i : Nat} (h : EInv b room (vs.map costV) len 1 fs) (hi : i + 1 = fs.length) : told vs b fs (i + 1) = told vs b fs i ++ slice vs b fs i := by
  rw [told_page h (by omega)]
  have hl := h.last
  have e := h.len_eq
  rw [show len - 1 = i by omega, List.length_map] at hl
  unfold told
  rw [if_neg (by omega), hl]
  simp
theorem told_leaf {vs : List Value} {b : Bool} {room : Int} {fs : List Int} {len i : Nat} (h : EInv b room (vs.map costV) len 1 fs) (hi : i < fs.length) (hb : b = false) : told vs b fs (i + 1) = told vs b fs i ++ slice vs b fs i := by
  by_cases hl : i + 1 = fs.length
  · exact told_last h hl
  · rw [told_page h hi]
    unfold told
    rw [if_pos (by omega), sAt_succ]
    subst hb
    show vs.take (eAt fs i + 0).toNat = _
    rw [Int.add_zero]
theorem told_mid {vs : List Value} {b : Bool} {room : Int} {fs : List Int} {len i : Nat} (h : EInv b room (vs.map costV) len 1 fs) (hi : i + 1 < fs.length) (hb : b = true) : told vs b fs (i + 1) = told vs b fs i ++ slice vs b fs i ++ [vs.getD (eAt fs i).toNat .none] := by
  rw [told_page h (by omega)]
  have hp := h.page i (by rw [← h.len_eq]; omega)
  have hbl := h.below i (by rw [← h.len_eq]; omega)
  rw [List.length_map] at hbl
  unfold told
  rw [if_pos (by omega), sAt_succ]
  subst hb
  have hn : (eAt fs i).toNat < vs.length := by omega
  rw [show (eAt fs i + stp true).toNat = (eAt fs i).toNat + 1 by show (eAt fs i + 1).toNat = _; omega, List.take_add_one, List.getElem?_eq_getElem hn, List.getD_eq_getElem?_getD, List.getElem?_eq_getElem hn]
  rfl
theorem mids_len {vs mids : List Value} {b : Bool} {fs : List Int} (h : mids = midsOf vs b fs) : mids.length = if b = true then fs.length - 1 else 0 := by
  rw [h]; unfold midsOf
  split
  · rw [List.length_map, List.length_dropLast]
  · rfl
theorem mids_at {vs mids : List Value} {b : Bool} {fs : List Int} {i : Nat} (h : mids = midsOf vs b fs) (hb : b = true) (hi : i + 1 < fs.length) : mids.getD i .none = vs.getD (eAt fs i).toNat .none := by
  rw [h]; unfold midsOf
  rw [if_pos hb, List.getD_eq_getElem?_getD, List.getElem?_map, List.getElem?_dropLast, if_pos (by omega), List.getElem?_eq_getElem (by omega)]
  unfold eAt
  rw [List.getD_eq_getElem?_getD (l := fs), List.getElem?_eq_getElem (by omega)]
  rfl
theorem page_mem {vs : List Value} {b : Bool} {fs : List Int} {po : List (Addr × Nat)} {i : Nat} {q : Addr × Nat} (h : po[i]? = some q) : (q.1, listOf (slice vs b fs i).toArray q.2) ∈ pagesL vs b fs po := by
  unfold pagesL
  rw [List.mem_mapIdx]
  obtain ⟨hi, e⟩ := List.getElem?_eq_some_iff.mp h
  exact ⟨i, hi, by rw [e]; rfl⟩
theorem page_at {po : List (Addr × Nat)} {i : Nat} {v : Value} (h : (po.map (fun q => Value.ref q.1)).toArray[i]? = some v) : ∃ q, po[i]? = some q ∧ v = .ref q.1 := by
  rw [List.getElem?_toArray, List.getElem?_map] at h
  cases e : po[i]? with
  | none => rw [e] at h; cases h
  | some q => rw [e] at h; cases h; exact ⟨q, rfl, rfl⟩
theorem pageName {h : Heap} {r : Addr} {n : Nat} {t u x : Tok} (_ : IsRange h r 0 (n : Int) 1 t u x) : ∃ z, z = n := ⟨n, rfl⟩
theorem kvName {v r : Int} {co es : List Int} (_ : FE ([(2 : Int), 5, 10, 13].getD v.toNat 0 != 13) r co es) : ∃ z, z = v := ⟨v, rfl⟩
theorem rmName {b : Bool} {x y : Int} {co es : List Int} (_ : FE b (x + y) co es) : ∃ z, z = y := ⟨y, rfl⟩
theorem toldName {h₀ h : Heap} {L a0 a1 a2 a3 a4 a5 a6 : Addr} {o0 o1 o2 o3 o4 o5 o6 : Obj} {tl : List (Addr × Obj)} (_ : News h₀ L h ((a0, o0) :: (a1, o1) :: (a2, o2) :: (a3, o3) :: (a4, o4) :: (a5, o5) :: (a6, o6) :: tl)) : ∃ x y, x = a0 ∧ y = o6 := ⟨a0, o6, rfl, rfl⟩
theorem sub_told {q0 q1 q2 q3 q4 q5 q6 : Addr × Obj} {tl : List (Addr × Obj)} : ∀ p ∈ q0 :: q2 :: q3 :: q4 :: q6 :: tl, p ∈ q0 :: q1 :: q2 :: q3 :: q4 :: q5 :: q6 :: tl := by
  intro p hp
  simp only [List.mem_cons] at hp ⊢
  rcases hp with h | h | h | h | h | h <;> simp [h]
theorem mids_lenT {vs mids : List Value} {k : Int} {fs : List Int} (h : mids = midsOf vs (k != 13) fs) (hk : k ≠ 13) : mids.length = fs.length - 1 := by
  rw [mids_len h, if_pos (by simpa using hk)]
theorem mids_lenF {vs mids : List Value} {k : Int} {fs : List Int} (h : mids = midsOf vs (k != 13) fs) (hk : k = 13) : mids.length = 0 := by
  rw [mids_len h, if_neg (by simp [hk])]
theorem off_turn {I D : Addr} {o : Obj} {x : Addr × Obj} {tl : List (Addr × Obj)} (h : ∀ p ∈ x :: tl, p.1 ≠ I) (hd : @LT.lt Nat _ I D) : ∀ p ∈ (D, o) :: tl, p.1 ≠ I := by
  intro p hp
  rcases List.mem_cons.mp hp with rfl | hp
  · exact Nat.ne_of_gt hd
  · exact h p (.tail _ hp)
theorem sub_turnA {d i t : Addr × Obj} {tl : List (Addr × Obj)} : ∀ p ∈ d :: tl, p ∈ d :: i :: t :: tl := by
  intro p hp
  rcases List.mem_cons.mp hp with rfl | hp
  · exact .head _
  · exact .tail _ (.tail _ (.tail _ hp))
theorem sub_turnB {d e f i t : Addr × Obj} {tl : List (Addr × Obj)} : ∀ p ∈ d :: tl, p ∈ d :: e :: f :: i :: t :: tl := by
  intro p hp
  rcases List.mem_cons.mp hp with rfl | hp
  · exact .head _
  · exact .tail _ (.tail _ (.tail _ (.tail _ (.tail _ hp))))
theorem bF_of {k : Int} (h : k = 13) : (k != 13) = false := by simp [h]
theorem bT_of {k : Int} (h : k ≠ 13) : (k != 13) = true := by simpa using h
theorem EInv.nonempty {b : Bool} {room : Int} {co es : List Int} {len k : Nat} (h : EInv b room co len 1 es) (hk : k < len) : sAt b es k < eAt es k := by
  by_cases e : k = 0
  · subst e
    rcases h.cur with h1 | ⟨h1, _⟩
    · exact h1
    · omega
  · exact h.done k (by omega) hk
theorem sub_two {x y : Addr × Obj} {l : List (Addr × Obj)} : ∀ p ∈ l, p ∈ x :: y :: l := fun _ hp => .tail _ (.tail _ hp)

end
section
local macro_rules | `(tactic| walk_at "binaryOp Add ref ref") => `(tactic| (k_here; k_made; walk_say "MADE"))
local macro_rules | `(tactic| walk_at "exec While") => `(tactic| (k_here; (with_reducible show wpAny _ _ (exec (Stmt.While _ _ _ _) _) _ _ _); refine halt ?_; walk_say "HALT"))
local macro_rules | `(tactic| walk_at "exec While Compare cons nil") => `(tactic| (k_here; refine halt ?_; walk_say "HALT"))
local macro_rules | `(tactic| walk_at "exec While BoolOp cons nil") => `(tactic| (k_here; refine halt ?_; walk_say "HALT"))
local macro_rules | `(tactic| walk_at "exec While Constant cons nil") => `(tactic| (k_here; refine halt ?_; walk_say "HALT"))
local macro_rules | `(tactic| walk_at "exec While Name cons nil") => `(tactic| (k_here; refine halt ?_; walk_say "HALT"))
local macro_rules | `(tactic| walk_at "KswEnd") => `(tactic| (refine halt ?_))
local macro_rules | `(tactic| walk_at "exec Raise") => `(tactic| (k_here; (with_reducible show wpAny _ _ (exec (Stmt.Raise _ _ _) _) _ _ _); refine halt ?_; walk_say "HALT"))
local macro_rules | `(tactic| walk_at "exec Raise some none") => `(tactic| (k_here; refine halt ?_; walk_say "HALT"))
section
theorem off_starts : True := by
  w_top off
  trivial
section
variable (w : World) {mean : ExcName → Option Value} {mg mb : Str → Option Value} {dp un : Nat} {gd : Option (List Code)} {cn : Str} {cs : Scope} {a : Addr} {ccd : Value} {cl : List (Str × Addr)} {outer : List Env} {A₀ : Around} {base h₀ : Heap} {L : Addr} {m : Str → Option Value} {s : Shared} {Q E : Value → Shared → Prop}
  (B : Below A₀ base outer h₀) (F : Fr h₀ L s.heap m) (X : (hd.heap_39 w.params).In h₀) (T : Top hd.view_39 (looseW hd.view_39 []) mean mg mb h₀)
  (hk : cs.kind = .function) (hdp : dp + 5 < recursionLimit) (hu : un + 50 < cLine)
include B F X T hk hdp hu
theorem starts_call {eA : Addr} {vs : List Value} {es : List Int} {b : Bool} (hl : s.heap.IsList eA vs.toArray) (hI : IntsAre vs es) (hlen : es.length < 2 ^ 21)
  (hret : ∀ r rs rn h' tk', (∀ b o, s.heap.get? b = some o → h'.get? b = some o) → s.heap.get? r = none → h'.get? r = some (listOf rs.toArray rn) → IntsAre rs (startsL b es) → Q (.ref r) { s with heap := h', toks := tk' }) :
  wpAny (model PySem.Challenge.rw_nt0090_01.row.prog w) (ktrTop dp un gd cn cs L a ccd cl outer) (call (.ref 65) [.ref eA, .bool b]) Q E s := by
  refine wpAny_call ?_
  k_dflt (refine' enterC ?k1 ?k2 ?k3 ?k5 ?kA ?kF ?kK ?k6 ?k7 ?k8 ?k9 ?kB ?kD ?_ ?c2 ?c3 ?c4; (case kA => exact rfl); (case kF => exact rfl); (case kK => assumption); (case k1 => k_asm); (case k2 => k_asm); (case k3 => k_asm); (case k5 => k_asm); (case k6 => k_is); (case k7 => k_is); (case k8 => ktr_room); (case k9 => exact BindsTo.of_eq rfl); (case kB => exact rfl); (case kD => decide +kernel); (case c2 => exact rfl); (case c3 => exact rfl); (case c4 => exact rfl); k_whole; intro L' h' tk' cells' F' N' Y' B' X' T'; k_cells Y'; (try simp only [List.cons_append, List.nil_append] at N'); (try dsimp only); (try k_lift B'); (try k_fold))
  k_steps
  all_goals (try k_data)
  all_goals (
    rename Fr s.heap _ _ _ => F9
    rename News s.heap _ _ _ => N9
    rename IntsAre _ _ => I9
    rename b = _ => hb9
    refine hret _ _ _ _ _ F9.keep (N9 _ (.head _)).2.2 (N9 _ (.head _)).1 ?_
    unfold startsL stp
    rw [hb9]
    have e9 : ∀ l : List Int, l.filter (fun _ => true) = l := fun l => List.filter_eq_self.2 (fun _ _ => rfl)
    simp only [e9] at I9
    simpa [List.dropLast_eq_take, List.map_take] using I9)
end

end
section
theorem off_cost : True := by
  w_top off
  trivial
section
variable (w : World) {mean : ExcName → Option Value} {mg mb : Str → Option Value} {dp un : Nat} {gd : Option (List Code)} {cn : Str} {cs : Scope} {a : Addr} {ccd : Value} {cl : List (Str × Addr)} {outer : List Env} {A₀ : Around} {base h₀ : Heap} {L : Addr} {m : Str → Option Value} {s : Shared} {Q E : Value → Shared → Prop}
  (B : Below A₀ base outer h₀) (F : Fr h₀ L s.heap m) (X : (hd.heap_39 w.params).In h₀) (T : Top hd.view_39 (looseW hd.view_39 []) mean mg mb h₀)
  (hk : cs.kind = .function) (hdp : dp + 5 < recursionLimit) (hu : un + 50 < cLine)
include B F X T hk hdp hu
theorem cost_call {bs : Array UInt8} {t : Tok} (hb : bs.size < 2 ^ 20)
  (hret : ∀ t h' tk', (∀ b o, s.heap.get? b = some o → h'.get? b = some o) → Q (.int (2 + max 4 (bs.size : Int)) t) { s with heap := h', toks := tk' }) :
  wpAny (model PySem.Challenge.rw_nt0090_01.row.prog w) (ktrTop dp un gd cn cs L a ccd cl outer) (call (.ref 53) [.bytes bs t]) Q E s := by
  refine wpAny_call ?_
  k_dflt (refine' enterP ?k1 ?k2 ?k3 ?k5 ?kA ?kF ?kK ?k6 ?k7 ?k8 ?k9 ?kB ?_ ?c2 ?c3 ?c4 ?c5; (case kA => exact rfl); (case kF => exact rfl); (case kK => assumption); (case k1 => k_asm); (case k2 => k_asm); (case k3 => k_asm); (case k5 => k_asm); (case k6 => k_is); (case k7 => k_is); (case k8 => ktr_room); (case k9 => exact BindsTo.of_eq rfl); (case c5 => decide); (case kB => exact locs rfl); (case c2 => exact rfl); (case c3 => exact rfl); (case c4 => exact rfl); k_whole; intro L' h' F' N' B' X' T'; (try dsimp only); (try k_lift B'); (try k_fold))
  k_steps
  all_goals (try k_data)
  rename Fr s.heap _ _ _ => F9
  have e9 : (if (bs.size : Int) > 4 then (bs.size : Int) else 4) = max 4 (bs.size : Int) := by omega
  rw [e9]
  exact hret _ _ _ F9.keep
end

end
section
theorem off_first : True := by
  w_top off
  trivial
section
variable (w : World) {mean : ExcName → Option Value} {mg mb : Str → Option Value} {dp un : Nat} {gd : Option (List Code)} {cn : Str} {cs : Scope} {a : Addr} {ccd : Value} {cl : List (Str × Addr)} {outer : List Env} {A₀ : Around} {base h₀ : Heap} {L : Addr} {m : Str → Option Value} {s : Shared} {Q E : Value → Shared → Prop}
  (B : Below A₀ base outer h₀) (F : Fr h₀ L s.heap m) (X : (hd.heap_39 w.params).In h₀) (T : Top hd.view_39 (looseW hd.view_39 []) mean mg mb h₀)
  (hk : cs.kind = .function) (hdp : dp + 5 < recursionLimit) (hu : un + 50 < cLine)
include B F X T hk hdp hu
theorem first_call {cA : Addr} {vs : List Value} {co : List Int} {room : Int} {tr : Tok} {b : Bool} (hl : s.heap.IsList cA vs.toArray) (hI : IntsAre vs co) (hlen : co.length < 2 ^ 20) (hpos : 0 < co.length) (hfit : Fits room co)
  (hret : ∀ r rs rn es h' tk', (∀ b o, s.heap.get? b = some o → h'.get? b = some o) → s.heap.get? r = none → h'.get? r = some (listOf rs.toArray rn) → IntsAre rs es → FE b room co es → Q (.ref r) { s with heap := h', toks := tk' }) :
  wpAny (model PySem.Challenge.rw_nt0090_01.row.prog w) (ktrTop dp un gd cn cs L a ccd cl outer) (call (.ref 60) [.ref cA, .int room tr, .bool b]) Q E s := by
  refine wpAny_call ?_
  k_dflt (refine' enterP ?k1 ?k2 ?k3 ?k5 ?kA ?kF ?kK ?k6 ?k7 ?k8 ?k9 ?kB ?_ ?c2 ?c3 ?c4 ?c5; (case kA => exact rfl); (case kF => exact rfl); (case kK => assumption); (case k1 => k_asm); (case k2 => k_asm); (case k3 => k_asm); (case k5 => k_asm); (case k6 => k_is); (case k7 => k_is); (case k8 => ktr_room); (case k9 => exact BindsTo.of_eq rfl); (case c5 => decide); (case kB => exact locs rfl); (case c2 => exact rfl); (case c3 => exact rfl); (case c4 => exact rfl); k_whole; intro L' h' F' N' B' X' T'; (try dsimp only); (try k_lift B'); (try k_fold))
  k_steps
  all_goals (try k_data)
  refine unhalt ?_
  have hr9 : 0 ≤ room := by have := hfit.at (i := 0) (by omega) (by omega); omega
  have st9 : FInv b room co [] 0 := FInv.start hpos
  k_while (fun _ ends start => FInv b room co ends start) (fun _ _ start => co.length - start.toNat) "ends" "start"
  rename_i vs1 es1 n1 start1 t1 _
  rename FInv _ _ _ _ _ => inv9
  have lo9 := inv9.lo
  have hi9 := inv9.hi
  have few9 := inv9.few
  k_steps
  all_goals (try k_data)
  refine unhalt ?_
  have gst9 : GInv b room co start1 0 start1 := GInv.start inv9 hr9
  k_while (fun _ used en => GInv b room co start1 used en) (fun _ _ en => co.length - en.toNat) "used" "end"
  rename_i used1 tu1 en1 te1 _
  rename GInv _ _ _ _ _ _ => ginv9
  have glo9 := ginv9.lo
  have ghi9 := ginv9.hi
  have two9 : en1 < (co.length : Int) → ¬ used1 + co.getD en1.toNat 0 ≤ room → start1 + 2 ≤ en1 := fun h1 h2 => ginv9.two hfit lo9 h1 h2
  k_steps
  all_goals (try k_data)
  · (refine unhalt ?_; (rename News _ _ _ _ => nE'); (try simp only [List.push_toArray] at nE'); (refine ksw_end (_, _, _, _) (by assumption) nE' (by kst_in) (by kst_facts) (by kst_all) (by ksw_same) ?_ ?_))
    · dsimp only
      exact ginv9.step lo9 (by assumption) (by assumption)
    · dsimp only; omega
  · exfalso; omega
  · rename Fr s.heap _ _ _ => F9
    rename News s.heap _ _ _ => N9
    rename IntsAre vs1 es1 => I9
    rename b = true => b9
    have hs9 : stp b = 1 := by rw [b9]; rfl
    simp only [List.push_toArray] at N9
    exact hret _ _ _ _ _ _ F9.keep (N9 _ (.tail _ (.tail _ (.head _)))).2.2 (N9 _ (.tail _ (.tail _ (.head _)))).1 ((I9.append (.cons _ _ .nil)).append (.cons _ _ .nil)) (inv9.fin2 ginv9 hfit (by assumption) (by assumption) (by omega) hr9)
  · rename b = true => b9
    have hs9 : stp b = 1 := by rw [b9]; rfl
    have nx9 := inv9.next ginv9 hfit (by assumption) (by assumption) (by omega)
    rw [hs9] at nx9
    (refine unhalt ?_; (rename News _ _ _ _ => nE'); (try simp only [List.push_toArray] at nE'); (refine ksw_end (_, _, _, _, _) (by assumption) nE' (by kst_in) (by kst_facts) (by kst_all) (by ksw_same) ?_ ?_))
    · exact nx9
    · dsimp only; omega
  · rename b = false => b9
    have hs9 : stp b = 0 := by rw [b9]; rfl
    have nx9 := inv9.next ginv9 hfit (by assumption) (by assumption) (by omega)
    rw [hs9, Int.add_zero] at nx9
    (refine unhalt ?_; (rename News _ _ _ _ => nE'); (try simp only [List.push_toArray] at nE'); (refine ksw_end (_, _, _, _, _) (by assumption) nE' (by kst_in) (by kst_facts) (by kst_all) (by ksw_same) ?_ ?_))
    · exact nx9
    · dsimp only; omega
  · exfalso; omega
  · rename Fr s.heap _ _ _ => F9
    rename News s.heap _ _ _ => N9
    rename IntsAre vs1 es1 => I9
    simp only [List.push_toArray] at N9
    exact hret _ _ _ _ _ _ F9.keep (N9 _ (.tail _ (.tail _ (.head _)))).2.2 (N9 _ (.tail _ (.tail _ (.head _)))).1 (I9.append (.cons _ _ .nil)) (inv9.fin1 ginv9 (by assumption))
end

end
section
theorem off_source : True := by
  w_top off
  trivial
section
variable (w : World) {mean : ExcName → Option Value} {mg mb : Str → Option Value} {dp un : Nat} {gd : Option (List Code)} {cn : Str} {cs : Scope} {a : Addr} {ccd : Value} {cl : List (Str × Addr)} {outer : List Env} {A₀ : Around} {base h₀ : Heap} {L : Addr} {m : Str → Option Value} {s : Shared} {Q E : Value → Shared → Prop}
  (B : Below A₀ base outer h₀) (F : Fr h₀ L s.heap m) (X : (hd.heap_39 w.params).In h₀) (T : Top hd.view_39 (looseW hd.view_39 []) mean mg mb h₀)
  (hk : cs.kind = .function) (hdp : dp + 5 < recursionLimit) (hu : un + 50 < cLine)
include B F X T hk hdp hu
theorem source_call {sA : Addr} {vs : List Value} {ns : List Int} (hl : s.heap.IsList sA vs.toArray) (hI : IntsAre vs ns) (hlen : ns.length ≤ 63)
  (hret : ∀ r S M t1 t2 rn h' tk', (∀ b o, s.heap.get? b = some o → h'.get? b = some o) → s.heap.get? r = none → h'.get? r = some (listOf #[.int S t1, .int M t2] rn) → 0 ≤ S → 0 ≤ M → M < 2147483647 → Q (.ref r) { s with heap := h', toks := tk' }) :
  wpAny (model PySem.Challenge.rw_nt0090_01.row.prog w) (ktrTop dp un gd cn cs L a ccd cl outer) (call (.ref 84) [.ref sA]) Q E s := by
  refine wpAny_call ?_
  k_dflt (refine' enterP ?k1 ?k2 ?k3 ?k5 ?kA ?kF ?kK ?k6 ?k7 ?k8 ?k9 ?kB ?_ ?c2 ?c3 ?c4 ?c5; (case kA => exact rfl); (case kF => exact rfl); (case kK => assumption); (case k1 => k_asm); (case k2 => k_asm); (case k3 => k_asm); (case k5 => k_asm); (case k6 => k_is); (case k7 => k_is); (case k8 => ktr_room); (case k9 => exact BindsTo.of_eq rfl); (case c5 => decide); (case kB => exact locs rfl); (case c2 => exact rfl); (case c3 => exact rfl); (case c4 => exact rfl); k_whole; intro L' h' F' N' B' X' T'; (try dsimp only); (try k_lift B'); (try k_fold))
  (k_with "pyIter ref" => k_state (fun _ m => 0 ≤ m ∧ m < 2147483647) "mixed")
  k_steps
  k_with_none
  all_goals (try k_data)
  all_goals (
    rename Fr s.heap _ _ _ => F9
    rename News s.heap _ _ _ => N9
    rename _ < (2147483647 : Int) => hi9
    rename (0 : Int) ≤ _ => lo9
    refine hret _ _ _ _ _ _ _ _ F9.keep (N9 _ (.head _)).2.2 (N9 _ (.head _)).1 ?_ lo9 hi9
    refine Int.mul_nonneg ?_ ?_
    · split <;> omega
    · split <;> omega)
end

end
section
theorem off_plain : True := by
  w_top off
  trivial
section
variable (w : World) {mean : ExcName → Option Value} {mg mb : Str → Option Value} {dp un : Nat} {gd : Option (List Code)} {cn : Str} {cs : Scope} {a : Addr} {ccd : Value} {cl : List (Str × Addr)} {outer : List Env} {A₀ : Around} {base h₀ : Heap} {L : Addr} {m : Str → Option Value} {s : Shared} {Q E : Value → Shared → Prop}
  (B : Below A₀ base outer h₀) (F : Fr h₀ L s.heap m) (X : (hd.heap_39 w.params).In h₀) (T : Top hd.view_39 (looseW hd.view_39 []) mean mg mb h₀)
  (hk : cs.kind = .function) (hdp : dp + 5 < recursionLimit) (hu : un + 50 < cLine)
include B F X T hk hdp hu
theorem plain_call {cA : Addr} {vs : List Value} {co : List Int} {room : Int} {tr : Tok} {b : Bool} (hl : s.heap.IsList cA vs.toArray) (hI : IntsAre vs co) (hlen : co.length < 2 ^ 20)
  (hret : ∀ t h' tk', (∀ b o, s.heap.get? b = some o → h'.get? b = some o) → Q (.int (1 + plainN b room co 0) t) { s with heap := h', toks := tk' }) :
  wpAny (model PySem.Challenge.rw_nt0090_01.row.prog w) (ktrTop dp un gd cn cs L a ccd cl outer) (call (.ref 98) [.ref cA, .int room tr, .bool b]) Q E s := by
  refine wpAny_call ?_
  k_dflt (refine' enterP ?k1 ?k2 ?k3 ?k5 ?kA ?kF ?kK ?k6 ?k7 ?k8 ?k9 ?kB ?_ ?c2 ?c3 ?c4 ?c5; (case kA => exact rfl); (case kF => exact rfl); (case kK => assumption); (case k1 => k_asm); (case k2 => k_asm); (case k3 => k_asm); (case k5 => k_asm); (case k6 => k_is); (case k7 => k_is); (case k8 => ktr_room); (case k9 => exact BindsTo.of_eq rfl); (case c5 => decide); (case kB => exact locs rfl); (case c2 => exact rfl); (case c3 => exact rfl); (case c4 => exact rfl); k_whole; intro L' h' F' N' B' X' T'; (try dsimp only); (try k_lift B'); (try k_fold))
  k_steps
  all_goals (try k_data)
  refine unhalt ?_
  k_while (fun _ at' pages used => 0 ≤ at' ∧ at' ≤ (co.length : Int) ∧ pages + plainN b room (co.drop at'.toNat) used = 1 + plainN b room co 0) (fun _ at' _ _ => co.length - at'.toNat) "at" "pages" "used"
  rename 0 ≤ _ => lo9
  rename _ ≤ (co.length : Int) => hi9
  rename _ + plainN b room _ _ = _ => eq9
  k_steps
  all_goals (try k_data)
  · (refine unhalt ?_; (rename News _ _ _ _ => nE'); (try simp only [List.push_toArray] at nE'); (refine ksw_end (_, _, _, _, _, _) (by assumption) nE' (by kst_in) (by kst_facts) (by kst_all) (by ksw_same) ?_ ?_))
    · rename _ ≤ room => fit9
      rename _ < (co.length : Int) => lt9
      dsimp only
      rw [plain_fit lo9 lt9 fit9] at eq9
      exact ⟨by omega, by omega, eq9⟩
    · dsimp only; omega
  · (refine unhalt ?_; (rename News _ _ _ _ => nE'); (try simp only [List.push_toArray] at nE'); (refine ksw_end (_, _, _, _, _, _) (by assumption) nE' (by kst_in) (by kst_facts) (by kst_all) (by ksw_same) ?_ ?_))
    · rename ¬ _ ≤ room => fit9
      rename _ < (co.length : Int) => lt9
      rename b = true => b9
      dsimp only
      rw [plain_not lo9 lt9 fit9, if_pos b9] at eq9
      exact ⟨by omega, by omega, by omega⟩
    · dsimp only; omega
  · (refine unhalt ?_; (rename News _ _ _ _ => nE'); (try simp only [List.push_toArray] at nE'); (refine ksw_end (_, _, _, _, _, _) (by assumption) nE' (by kst_in) (by kst_facts) (by kst_all) (by ksw_same) ?_ ?_))
    · rename ¬ _ ≤ room => fit9
      rename _ < (co.length : Int) => lt9
      rename b = false => b9
      dsimp only
      rw [plain_not lo9 lt9 fit9, if_neg (by simp [b9])] at eq9
      exact ⟨by omega, by omega, by omega⟩
    · dsimp only; omega
  · rename Fr s.heap _ _ _ => F9
    rename ¬ _ < (co.length : Int) => lt9
    rw [plain_end lt9, Int.add_zero] at eq9
    rw [eq9]
    exact hret _ _ _ F9.keep
end

end
section
theorem off_draw : True := by
  w_top off
  trivial
section
variable (w : World) {mean : ExcName → Option Value} {mg mb : Str → Option Value} {dp un : Nat} {gd : Option (List Code)} {cn : Str} {cs : Scope} {a : Addr} {ccd : Value} {cl : List (Str × Addr)} {outer : List Env} {A₀ : Around} {base h₀ : Heap} {L : Addr} {m : Str → Option Value} {s : Shared} {Q E : Value → Shared → Prop}
  (B : Below A₀ base outer h₀) (F : Fr h₀ L s.heap m) (X : (hd.heap_39 w.params).In h₀) (T : Top hd.view_39 (looseW hd.view_39 []) mean mg mb h₀)
  (hk : cs.kind = .function) (hdp : dp + 5 < recursionLimit) (hu : un + 50 < cLine)
include B F X T hk hdp hu
theorem draw_call {sA : Addr} {S M many : Int} {t1 t2 tm : Tok} {sn : Nat} (hs : s.heap.get? sA = some (listOf #[.int S t1, .int M t2] sn)) (hL : sA ≠ L) (h0 : h₀.get? sA = none) (hS : 0 ≤ S) (hM : 0 ≤ M) (hM' : M < 2147483647) (hmany : 1 ≤ many) (hmany' : many < 1000)
  (hret : ∀ v t S' M' t1' t2' h' tk', 0 ≤ v → v < many → 0 ≤ S' → 0 ≤ M' → M' < 2147483647 → (∀ b o, b ≠ sA → s.heap.get? b = some o → h'.get? b = some o) → h'.get? sA = some (listOf #[.int S' t1', .int M' t2'] sn) → Q (.int v t) { s with heap := h', toks := tk' }) :
  wpAny (model PySem.Challenge.rw_nt0090_01.row.prog w) (ktrTop dp un gd cn cs L a ccd cl outer) (call (.ref 91) [.ref sA, .int many tm]) Q E s := by
  have N1 : News h₀ L s.heap [(sA, listOf #[.int S t1, .int M t2] sn)] := fun p hp => by
    rw [List.mem_singleton.mp hp]; exact ⟨hs, hL, h0⟩
  refine wpAny_call ?_
  k_dflt (refine' code_defG ?k1 ?k2 ?k3 ?k4 ?k5 ?kA ?kF ?kK ?k6 ?k7 ?k8 ?k9 ?kB ?_ ?c2 ?c3 ?c4 ?c5; (case kA => exact rfl); (case kF => exact rfl); (case kK => assumption); (case k1 => k_asm); (case k2 => k_asm); (case k3 => k_asm); (case k4 => k_asm); (case k5 => k_asm); (case k6 => k_is); (case k7 => k_is); (case k8 => ktr_room); (case k9 => exact BindsTo.of_eq rfl); (case c5 => decide); (case kB => exact locs rfl); (case c2 => exact rfl); (case c3 => exact rfl); (case c4 => exact rfl); k_whole; intro g' L' h' FG' F' N' B' X' T' kG'; (try dsimp only); (try k_lift B'); (try k_fold))
  rename GSub _ _ _ => kG9
  obtain ⟨g9, e9⟩ := gname kG9
  subst e9
  k_steps
  all_goals (try k_data)
  · rename Fr g9 _ _ _ => F9
    rename News g9 _ _ _ => N9
    have pos9 : 0 < S := by assumption
    refine hret _ _ (S.fdiv many) M _ _ _ _ (fmod_lo S (by omega)) (fmod_hi S (by omega)) ?_ hM hM' (fun b o hb e => F9.keep b o (kG9 b o e (by simpa using hb))) (N9 _ (.head _)).1
    exact Int.fdiv_nonneg hS (by omega)
  · have hx1 := fmod_lo (M * 48271 + 11) (n := 2147483647) (by decide)
    have hx2 := fmod_hi (M * 48271 + 11) (n := 2147483647) (by decide)
    have e1 : [S, ([S, M].getD (Int.toNat 1) 0 * 48271 + 11).fmod 2147483647].getD (Int.toNat 1) 0 = (M * 48271 + 11).fmod 2147483647 := rfl
    rw [e1]
    k_steps
    all_goals (try k_data)
    rename Fr g9 _ _ _ => F9
    rename News g9 _ _ _ => N9
    exact hret _ _ S ((M * 48271 + 11).fmod 2147483647) _ _ _ _ (fmod_lo _ (by omega)) (fmod_hi _ (by omega)) hS hx1 hx2 (fun b o hb e => F9.keep b o (kG9 b o e (by simpa using hb))) (N9 _ (.head _)).1
end

end
section
local macro_rules | `(tactic| walk_at "pyIter ref") => `(tactic| ((with_reducible show wpAny _ _ (pyIter (Value.ref _)) (fun it s₂ => LoopAtV _ _ _ _ _ _ _ _ _ it s₂) _ _); k_here; refine halt ?_; walk_say "HALT"))
local macro_rules | `(tactic| walk_at "last pyIter ref") => `(tactic| ((with_reducible show wpAny _ _ (pyIter (Value.ref _)) (fun it s₂ => LoopAtV _ _ _ _ _ _ _ _ _ it s₂) _ _); k_here; refine halt ?_; walk_say "HALT"))
local macro_rules | `(tactic| walk_at "InvEndN") => `(tactic| (refine halt ?_))
section
theorem off_evened : True := by
  w_top off
  trivial
section
variable (w : World) {mean : ExcName → Option Value} {mg mb : Str → Option Value} {dp un : Nat} {gd : Option (List Code)} {cn : Str} {cs : Scope} {a : Addr} {ccd : Value} {cl : List (Str × Addr)} {outer : List Env} {A₀ : Around} {base h₀ : Heap} {L : Addr} {m : Str → Option Value} {s : Shared} {Q E : Value → Shared → Prop}
  (B : Below A₀ base outer h₀) (F : Fr h₀ L s.heap m) (X : (hd.heap_39 w.params).In h₀) (T : Top hd.view_39 (looseW hd.view_39 []) mean mg mb h₀)
  (hk : cs.kind = .function) (hdp : dp + 8 < recursionLimit) (hu : un + 80 < cLine)
include B F X T hk hdp hu
local macro_rules | `(tactic| walk_at "call ref") => `(tactic| (plain_pass; k_here; (refine' starts_call ?w ?B ?F ?X ?T ?hk ?hd ?hu ?hl ?hI ?hn ?_); (case B => k_asm); (case F => k_asm); (case X => k_asm); (case T => k_asm); (case hk => exact rfl); (case hd => ktr_room); (case hu => ktr_units); (case hl => first | exact News.isList (by k_asm) (by k_mem) | is_list); (case hI => l_ints); (case hn => omega); k_whole; intro r9 rs9 rn9 h9 tk9 keep9 fr9 at9 I9; (have af9 := after1 (by k_asm) (by k_asm) keep9 fr9 at9); (obtain ⟨F9, N9, ne9⟩ := af9); (try simp only [LCg.Off1, and_true] at ne9); clear keep9 fr9 at9; (try dsimp only); (try k_fold)))
theorem evened_call {cA eA : Addr} {vs us : List Value} {co es : List Int} {room : Int} {b : Bool} (hl : s.heap.IsList cA vs.toArray) (hI : IntsAre vs co) (hlE : s.heap.IsList eA us.toArray) (hJ : IntsAre us es) (hlen : co.length < 2 ^ 20) (hfit : Fits room co) (hfe : FE b room co es)
  (hret : ∀ r rs rn fs h' tk', (∀ b o, s.heap.get? b = some o → h'.get? b = some o) → s.heap.get? r = none → h'.get? r = some (listOf rs.toArray rn) → IntsAre rs fs → EInv b room co es.length 1 fs → Q (.ref r) { s with heap := h', toks := tk' }) :
  wpAny (model PySem.Challenge.rw_nt0090_01.row.prog w) (ktrTop dp un gd cn cs L a ccd cl outer) (call (.ref 72) [.ref cA, .ref eA, .bool b]) Q E s := by
  refine wpAny_call ?_
  k_dflt (refine' enterP ?k1 ?k2 ?k3 ?k5 ?kA ?kF ?kK ?k6 ?k7 ?k8 ?k9 ?kB ?_ ?c2 ?c3 ?c4 ?c5; (case kA => exact rfl); (case kF => exact rfl); (case kK => assumption); (case k1 => k_asm); (case k2 => k_asm); (case k3 => k_asm); (case k5 => k_asm); (case k6 => k_is); (case k7 => k_is); (case k8 => ktr_room); (case k9 => exact BindsTo.of_eq rfl); (case c5 => decide); (case kB => exact locs rfl); (case c2 => exact rfl); (case c3 => exact rfl); (case c4 => exact rfl); k_whole; intro L' h' F' N' B' X' T'; (try dsimp only); (try k_lift B'); (try k_fold))
  have few9 := hfe.few
  have ne8 := hfe.ne
  k_steps
  all_goals (try k_data)
  refine unhalt ?_
  rename News s.heap _ _ _ => N0
  obtain ⟨D0, hD0⟩ := addr1 N0
  subst hD0
  have st9 : EInv b room co es.length es.length es := hfe.start
  k_state (fun pr ends => EInv b room co es.length (es.length - pr.length) ends) "ends"
  · rename_i vs1 es1 n1 _ _
    obtain ⟨q, hq⟩ : ∃ q, es.length - kPre.length = q + 2 := ⟨es.length - kPre.length - 2, by omega⟩
    rename EInv _ _ _ _ _ es1 => inv9
    rw [hq] at inv9
    have lenE := inv9.len_eq
    have hS1 : (startsL b es1).getD kN.toNat 0 = sAt b es1 (q + 1) := by rw [show kN.toNat = q + 1 by omega]; exact startsL_at (by omega)
    have hS0 : (startsL b es1).getD (kN - 1).toNat 0 = sAt b es1 q := by rw [show (kN - 1).toNat = q by omega]; exact startsL_at (by omega)
    have hE1 : es1.getD kN.toNat 0 = eAt es1 (q + 1) := by rw [show kN.toNat = q + 1 by omega]; rfl
    have hE0 : es1.getD (kN - 1).toNat 0 = eAt es1 q := by rw [show (kN - 1).toNat = q by omega]; rfl
    have hSl : (startsL b es1).length = es1.length := startsL_len (by omega)
    have hp1 := inv9.page (q + 1) (by omega)
    have hp0 := inv9.page q (by omega)
    k_steps
    all_goals (try k_data)
    refine unhalt ?_
    rename News s.heap _ _ _ => N5
    rename Fr s.heap _ _ _ => F5
    obtain ⟨r5, rs5, rn5, e1, e2, e3⟩ := addr3 N5
    subst e1 e2 e3
    have w0 := WInv.start inv9
    have sR : (List.take (min (es1.getD kN.toNat 0).toNat co.length - ((startsL b es1).getD kN.toNat 0).toNat) (List.drop ((startsL b es1).getD kN.toNat 0).toNat co)).sum = csum b co es1 (q + 1) := by
      rw [hE1, hS1]; exact sum_slice2 hp1.1 hp1.2.1 hp1.2.2.1
    have sL : (List.take (min (es1.getD (kN - 1).toNat 0).toNat co.length - ((startsL b es1).getD (kN - 1).toNat 0).toNat) (List.drop ((startsL b es1).getD (kN - 1).toNat 0).toNat co)).sum = csum b co es1 q := by
      rw [hE0, hS0]; exact sum_slice2 hp0.1 hp0.2.1 hp0.2.2.1
    rw [sR, sL] at F5
    iterate 2 (rename List.length _ = min _ _ => hz; clear hz)
    iterate 2 (rename List.length (List.take _ _) ≤ _ => hz; clear hz)
    rename IntsAre vs1 es1 => I1
    rename IntsAre rs5 _ => I2
    rename @Ne Nat D0 r5 ∧ _ => ne5
    have hd5 : @Ne Nat D0 r5 := ne5.1
    refine ksw_while (σ := List Value × List Int × Nat × Addr × List Value × Nat × Int × Tok × Int × Tok × Bool)
      (fun c => (c.2.2.2.1, listOf c.2.2.2.2.1.toArray c.2.2.2.2.2.1) :: (D0, listOf c.1.toArray c.2.2.1) :: kOwn)
      (fun c => [("starts", .ref c.2.2.2.1), ("right", .int c.2.2.2.2.2.2.1 c.2.2.2.2.2.2.2.1), ("left", .int c.2.2.2.2.2.2.2.2.1 c.2.2.2.2.2.2.2.2.2.1), ("moving", .bool c.2.2.2.2.2.2.2.2.2.2)])
      (fun c => IntsAre c.1 c.2.1 ∧ IntsAre c.2.2.2.2.1 (startsL b c.2.1) ∧ @Ne Nat D0 c.2.2.2.1)
      ["last", "gain", "loss", "is_empty"]
      (fun c => WInv b room co es.length q c.2.1 c.2.2.2.2.2.2.1 c.2.2.2.2.2.2.2.2.1 c.2.2.2.2.2.2.2.2.2.2)
      (fun c => 2 * (eAt c.2.1 q).toNat + (if c.2.2.2.2.2.2.2.2.2.2 then 1 else 0))
      (vs1, es1, n1, r5, rs5, rn5, _, _, _, _, true)
      F5 (fun p hp => N5 p (.tail _ (.tail _ hp))) ⟨I1, I2, hd5⟩ (by kst_all) w0 ?_ ?_
    · rintro ⟨esV, esI, nE, sa, sV, sn, right, tr, left, tl, mv⟩ u h6 tk6 ⟨I6, J6, ne6⟩ w6 F6 N6
      dsimp only [kstB] at I6 J6 ne6 w6 F6 N6
      dsimp only
      clear sR sL w0 I1 I2 hd5 ne5 N5 F5 hS1 hS0 hE1 hE0 hSl hp1 hp0 lenE inv9
      have lenE := w6.len_eq
      have qhi := w6.q_hi
      have hS1 : (startsL b esI).getD kN.toNat 0 = sAt b esI (q + 1) := by rw [show kN.toNat = q + 1 by omega]; exact startsL_at (by omega)
      have hS0 : (startsL b esI).getD (kN - 1).toNat 0 = sAt b esI q := by rw [show (kN - 1).toNat = q by omega]; exact startsL_at (by omega)
      have hE1 : esI.getD kN.toNat 0 = eAt esI (q + 1) := by rw [show kN.toNat = q + 1 by omega]; rfl
      have hE0 : esI.getD (kN - 1).toNat 0 = eAt esI q := by rw [show (kN - 1).toNat = q by omega]; rfl
      have hSl : (startsL b esI).length = esI.length := startsL_len (by omega)
      have hp1 := w6.page (q + 1) (by omega)
      have hp0 := w6.page q (by omega)
      have hprev := w6.prev
      have hbelow := w6.below q (by omega)
      have e0 : (kN - 1).toNat = q := by omega
      have eqp : 0 < eAt esI q := by omega
      k_steps
      all_goals (try k_data)
      all_goals (first | (rename mv = true => hm9; rw [hm9] at w6) | skip)
      all_goals (first | (rename b = true => hb9; have hgain : gainAt b co esI q = co.getD (eAt esI q).toNat 0 := by unfold gainAt; rw [if_pos hb9]) | (rename b = false => hb9; have hgain : gainAt b co esI q = co.getD (eAt esI q - 1).toNat 0 := by unfold gainAt; rw [if_neg (by simp [hb9])]) | skip)
      all_goals (refine unhalt ?_)
      · rename News s.heap _ _ _ => nE'
        rename @Ne Nat sa _ ∧ @Ne Nat D0 _ ∧ _ => ne9
        have hc : sAt b esI q < eAt esI q - 1 ∧ (eAt esI (q + 1) ≤ sAt b esI (q + 1) ∨ right + gainAt b co esI q ≤ left - co.getD (eAt esI q - 1).toNat 0) :=
          ⟨by omega, by first | (left; omega) | (right; rw [hgain]; (rename right + _ ≤ _ => hs9); rw [hE0] at hs9; exact hs9)⟩
        refine ksw_end (_, _, _, _, _, _, _, _, _, _, _) (by assumption) nE' sub_move ⟨by assumption, by assumption, ne9.2.1⟩ (by kst_all) (by ksw_same) ?_ ?_
        · have mvd := w6.move hfit hc
          dsimp only
          rw [decide_eq_true (by assumption), hE0, e0]
          rw [hgain] at mvd
          exact mvd
        · dsimp only
          rw [decide_eq_true (by assumption), hE0, e0, eAt_set (by omega), if_pos rfl]
          simp only [if_true]
          omega
      · rename News s.heap _ _ _ => nE'
        rename @Ne Nat sa _ ∧ @Ne Nat D0 _ ∧ _ => ne9
        have hc : sAt b esI q < eAt esI q - 1 ∧ (eAt esI (q + 1) ≤ sAt b esI (q + 1) ∨ right + gainAt b co esI q ≤ left - co.getD (eAt esI q - 1).toNat 0) :=
          ⟨by omega, by first | (left; omega) | (right; rw [hgain]; (rename right + _ ≤ _ => hs9); rw [hE0] at hs9; exact hs9)⟩
        refine ksw_end (_, _, _, _, _, _, _, _, _, _, _) (by assumption) nE' sub_move ⟨by assumption, by assumption, ne9.2.1⟩ (by kst_all) (by ksw_same) ?_ ?_
        · have mvd := w6.move hfit hc
          dsimp only
          rw [decide_eq_true (by assumption), hE0, e0]
          rw [hgain] at mvd
          exact mvd
        · dsimp only
          rw [decide_eq_true (by assumption), hE0, e0, eAt_set (by omega), if_pos rfl]
          simp only [if_true]
          omega
      · rename News s.heap _ _ _ => nE'
        have hc : ¬ (sAt b esI q < eAt esI q - 1 ∧ (eAt esI (q + 1) ≤ sAt b esI (q + 1) ∨ right + gainAt b co esI q ≤ left - co.getD (eAt esI q - 1).toNat 0)) := by
          rintro ⟨h1, h2⟩
          first
            | omega
            | (rcases h2 with h2 | h2
               · omega
               · rw [hgain] at h2
                 rename ¬ (right + _ ≤ _) => hs9
                 rw [hE0] at hs9
                 exact hs9 h2)
        refine ksw_end (_, _, _, _, _, _, _, _, _, _, _) (by assumption) nE' sub_all ⟨I6, J6, ne6⟩ (by kst_all) (by ksw_same) ?_ ?_
        · dsimp only
          rw [decide_eq_false (by assumption)]
          exact w6.halt hc
        · dsimp only
          rw [decide_eq_false (by assumption), hm9]
          simp
      · rename News s.heap _ _ _ => nE'
        have hc : ¬ (sAt b esI q < eAt esI q - 1 ∧ (eAt esI (q + 1) ≤ sAt b esI (q + 1) ∨ right + gainAt b co esI q ≤ left - co.getD (eAt esI q - 1).toNat 0)) := by
          rintro ⟨h1, h2⟩
          first
            | omega
            | (rcases h2 with h2 | h2
               · omega
               · rw [hgain] at h2
                 rename ¬ (right + _ ≤ _) => hs9
                 rw [hE0] at hs9
                 exact hs9 h2)
        refine ksw_end (_, _, _, _, _, _, _, _, _, _, _) (by assumption) nE' sub_all ⟨I6, J6, ne6⟩ (by kst_all) (by ksw_same) ?_ ?_
        · dsimp only
          rw [decide_eq_false (by assumption)]
          exact w6.halt hc
        · dsimp only
          rw [decide_eq_false (by assumption), hm9]
          simp
      · rename News s.heap _ _ _ => nE'
        rename @Ne Nat sa _ ∧ @Ne Nat D0 _ ∧ _ => ne9
        have hc : sAt b esI q < eAt esI q - 1 ∧ (eAt esI (q + 1) ≤ sAt b esI (q + 1) ∨ right + gainAt b co esI q ≤ left - co.getD (eAt esI q - 1).toNat 0) :=
          ⟨by omega, by first | (left; omega) | (right; rw [hgain]; (rename right + _ ≤ _ => hs9); rw [hE0] at hs9; exact hs9)⟩
        refine ksw_end (_, _, _, _, _, _, _, _, _, _, _) (by assumption) nE' sub_move ⟨by assumption, by assumption, ne9.2.1⟩ (by kst_all) (by ksw_same) ?_ ?_
        · have mvd := w6.move hfit hc
          dsimp only
          rw [decide_eq_true (by assumption), hE0, e0]
          rw [hgain] at mvd
          exact mvd
        · dsimp only
          rw [decide_eq_true (by assumption), hE0, e0, eAt_set (by omega), if_pos rfl]
          simp only [if_true]
          omega
      · rename News s.heap _ _ _ => nE'
        rename @Ne Nat sa _ ∧ @Ne Nat D0 _ ∧ _ => ne9
        have hc : sAt b esI q < eAt esI q - 1 ∧ (eAt esI (q + 1) ≤ sAt b esI (q + 1) ∨ right + gainAt b co esI q ≤ left - co.getD (eAt esI q - 1).toNat 0) :=
          ⟨by omega, by first | (left; omega) | (right; rw [hgain]; (rename right + _ ≤ _ => hs9); rw [hE0] at hs9; exact hs9)⟩
        refine ksw_end (_, _, _, _, _, _, _, _, _, _, _) (by assumption) nE' sub_move ⟨by assumption, by assumption, ne9.2.1⟩ (by kst_all) (by ksw_same) ?_ ?_
        · have mvd := w6.move hfit hc
          dsimp only
          rw [decide_eq_true (by assumption), hE0, e0]
          rw [hgain] at mvd
          exact mvd
        · dsimp only
          rw [decide_eq_true (by assumption), hE0, e0, eAt_set (by omega), if_pos rfl]
          simp only [if_true]
          omega
      · rename News s.heap _ _ _ => nE'
        have hc : ¬ (sAt b esI q < eAt esI q - 1 ∧ (eAt esI (q + 1) ≤ sAt b esI (q + 1) ∨ right + gainAt b co esI q ≤ left - co.getD (eAt esI q - 1).toNat 0)) := by
          rintro ⟨h1, h2⟩
          first
            | omega
            | (rcases h2 with h2 | h2
               · omega
               · rw [hgain] at h2
                 rename ¬ (right + _ ≤ _) => hs9
                 rw [hE0] at hs9
                 exact hs9 h2)
        refine ksw_end (_, _, _, _, _, _, _, _, _, _, _) (by assumption) nE' sub_all ⟨I6, J6, ne6⟩ (by kst_all) (by ksw_same) ?_ ?_
        · dsimp only
          rw [decide_eq_false (by assumption)]
          exact w6.halt hc
        · dsimp only
          rw [decide_eq_false (by assumption), hm9]
          simp
      · rename News s.heap _ _ _ => nE'
        have hc : ¬ (sAt b esI q < eAt esI q - 1 ∧ (eAt esI (q + 1) ≤ sAt b esI (q + 1) ∨ right + gainAt b co esI q ≤ left - co.getD (eAt esI q - 1).toNat 0)) := by
          rintro ⟨h1, h2⟩
          first
            | omega
            | (rcases h2 with h2 | h2
               · omega
               · rw [hgain] at h2
                 rename ¬ (right + _ ≤ _) => hs9
                 rw [hE0] at hs9
                 exact hs9 h2)
        refine ksw_end (_, _, _, _, _, _, _, _, _, _, _) (by assumption) nE' sub_all ⟨I6, J6, ne6⟩ (by kst_all) (by ksw_same) ?_ ?_
        · dsimp only
          rw [decide_eq_false (by assumption)]
          exact w6.halt hc
        · dsimp only
          rw [decide_eq_false (by assumption), hm9]
          simp
      · rename News s.heap _ _ _ => nE'
        rename mv = false => hm9
        rw [hm9] at w6
        refine kst_end (_, _, _) (by assumption) nE' sub_one sub_own (by rfl) (by kst_facts) (by kst_all) (by kst_same) ?_
        dsimp only
        rw [show es.length - (kPre ++ [kN]).length = q + 1 by rw [List.length_append, List.length_singleton]; omega]
        exact w6.finish
    · passes_own
  · rename EInv _ _ _ _ _ _ => inv9
    rw [downKs_length, show es.length - ((es.length : Int) - 1 - 0).toNat = 1 by omega] at inv9
    k_steps
    all_goals (try k_data)
    rename Fr s.heap _ _ _ => F9
    rename News s.heap _ _ _ => N9
    exact hret _ _ _ _ _ _ F9.keep (N9 _ (.head _)).2.2 (N9 _ (.head _)).1 (by assumption) inv9
end

end
section
local macro_rules | `(tactic| walk_at "exec Assign cons ListComp") => `(tactic| (k_here; k_dflt (refine LCg.Assign_ListComp_U (F₀ := by k_asm) (by rfl) (by with_unfolding_all rfl) (by with_unfolding_all rfl) (by decide) (by rfl) (by decide) (by rfl) (by rfl) (by rfl) ?_); k_dflt lcg_toSrc))
local macro_rules | `(tactic| walk_at "eval ListComp") => `(tactic| (k_here; k_dflt (refine LCg.ListComp_U (F₀ := by k_asm) (by with_unfolding_all rfl) (by decide) (by rfl) (by decide) (by rfl) ?_); k_dflt lcg_toSrc))
local macro_rules | `(tactic| walk_at "CompSrc") => `(tactic| (refine halt ?_; walk_say "HALT"))
local macro_rules | `(tactic| walk_at "CompEnd") => `(tactic| (refine halt ?_; walk_say "HALT"))
section
theorem off_shared : True := by
  w_top off
  trivial
section
variable (w : World) {mean : ExcName → Option Value} {mg mb : Str → Option Value} {dp un : Nat} {gd : Option (List Code)} {cn : Str} {cs : Scope} {a : Addr} {ccd : Value} {cl : List (Str × Addr)} {outer : List Env} {A₀ : Around} {base h₀ : Heap} {L : Addr} {m : Str → Option Value} {s : Shared} {Q E : Value → Shared → Prop}
  (B : Below A₀ base outer h₀) (F : Fr h₀ L s.heap m) (X : (hd.heap_39 w.params).In h₀) (T : Top hd.view_39 (looseW hd.view_39 []) mean mg mb h₀)
  (hk : cs.kind = .function) (hdp : dp + 12 < recursionLimit) (hu : un + 120 < cLine)
include B F X T hk hdp hu
local macro_rules | `(tactic| walk_at "call ref") => `(tactic| (plain_pass; k_here; (refine' starts_call ?w ?B ?F ?X ?T ?hk ?hd ?hu ?hl ?hI ?hn ?_); (case B => k_asm); (case F => k_asm); (case X => k_asm); (case T => k_asm); (case hk => exact rfl); (case hd => ktr_room); (case hu => ktr_units); (case hl => first | exact News.isList (by k_asm) (by k_mem) | is_list); (case hI => l_ints); (case hn => omega); k_whole; intro r9 rs9 rn9 h9 tk9 keep9 fr9 at9 I9; (have af9 := after1 (by k_asm) (by k_asm) keep9 fr9 at9); (obtain ⟨F9, N9, ne9⟩ := af9); (try simp only [LCg.Off1, and_true] at ne9); clear keep9 fr9 at9; (try dsimp only); (try k_fold)))
local macro_rules | `(tactic| walk_at "call ref") => `(tactic| (plain_pass; k_here; (refine' cost_call ?w ?B ?F ?X ?T ?hk ?hd ?hu ?hb ?_); (case B => k_asm); (case F => k_asm); (case X => k_asm); (case T => k_asm); (case hk => exact rfl); (case hd => ktr_room); (case hu => ktr_units); (case hb => assumption); k_whole; intro t9 h9 tk9 keep9; (have af9 := after0 (by k_asm) (by k_asm) keep9); (obtain ⟨F9, N9⟩ := af9); clear keep9; (try dsimp only); (try k_fold)))
local macro_rules | `(tactic| walk_at "call ref") => `(tactic| (plain_pass; k_here; (refine' first_call ?w ?B ?F ?X ?T ?hk ?hd ?hu ?hl ?hI ?hn ?hp ?hf ?_); (case B => k_asm); (case F => k_asm); (case X => k_asm); (case T => k_asm); (case hk => exact rfl); (case hd => ktr_room); (case hu => ktr_units); (case hl => first | exact News.isList (by k_asm) (by k_mem) | is_list); (case hI => l_ints); (case hn => simp only [List.length_map]; omega); (case hp => simp only [List.length_map]; omega); (case hf => assumption); k_whole; intro r9 rs9 rn9 es9 h9 tk9 keep9 fr9 at9 I9 fe9; (have few9 := FE.few fe9); (have pos9 := FE.ne fe9); (try simp only [List.length_map] at few9); (have af9 := after1 (by k_asm) (by k_asm) keep9 fr9 at9); (obtain ⟨F9, N9, ne9⟩ := af9); (try simp only [LCg.Off1, and_true] at ne9); clear keep9 fr9 at9; (try dsimp only); (try k_fold)))
local macro_rules | `(tactic| walk_at "call ref") => `(tactic| (plain_pass; k_here; (refine' evened_call ?w ?B ?F ?X ?T ?hk ?hd ?hu ?hl ?hI ?hE ?hJ ?hn ?hf ?he ?_); (case B => k_asm); (case F => k_asm); (case X => k_asm); (case T => k_asm); (case hk => exact rfl); (case hd => ktr_room); (case hu => ktr_units); (case hl => first | exact News.isList (by k_asm) (by k_mem) | is_list); (case hE => first | exact News.isList (by k_asm) (by k_mem) | is_list);  (case hI => l_ints); (case hJ => l_ints); (case hn => simp only [List.length_map]; omega); (case hf => assumption); (case he => assumption); k_whole; intro r9 rs9 rn9 es9 h9 tk9 keep9 fr9 at9 I9 ei9; (have lenE9 := EInv.len_eq ei9); (have af9 := after1 (by k_asm) (by k_asm) keep9 fr9 at9); (obtain ⟨F9, N9, ne9⟩ := af9); (try simp only [LCg.Off1, and_true] at ne9); clear keep9 fr9 at9; (try dsimp only); (try k_fold)))
local macro_rules | `(tactic| walk_at "subscriptTail Name Name ref int") => `(tactic| (plain_pass; k_here; (with_reducible show wpAny _ _ (subscriptTail _ _ (Value.ref _) (Value.int _ _)) _ _ _); (refine' item_by ?F ?l ?a ?b ?c ?_ ?d); (case F => k_asm); (case l => assumption); (case a => omega); (case b => omega); (case c => omega); (case d => with_unfolding_all rfl); k_whole))
theorem shared_call {rA : Addr} {vs : List Value} {room kind : Int} {tr tk0 : Tok} (hl : s.heap.IsList rA vs.toArray) (hB : ∀ v ∈ vs, IsBytes v) (hpos : 0 < vs.length) (hlen : vs.length < 2 ^ 20) (hfit : Fits room (vs.map costV))
  (hret : ∀ t pg md es fs po mids pn mn h' tk', (∀ b o, s.heap.get? b = some o → h'.get? b = some o) →
    (∀ p ∈ (t, ({ cls := .type "tuple", data := .seq #[.ref pg, .ref md] } : Obj)) :: (pg, listOf (po.map (fun q => Value.ref q.1)).toArray pn) :: (md, listOf (List.toArray mids) mn) :: pagesL vs (kind != 13) fs po, s.heap.get? p.1 = none ∧ h'.get? p.1 = some p.2) →
    FE (kind != 13) room (vs.map costV) es → EInv (kind != 13) room (vs.map costV) es.length 1 fs → po.length = fs.length → mids = midsOf vs (kind != 13) fs → Q (.ref t) { s with heap := h', toks := tk' }) :
  wpAny (model PySem.Challenge.rw_nt0090_01.row.prog w) (ktrTop dp un gd cn cs L a ccd cl outer) (call (.ref 77) [.ref rA, .int room tr, .int kind tk0]) Q E s := by
  refine wpAny_call ?_
  k_dflt (refine' enterC ?k1 ?k2 ?k3 ?k5 ?kA ?kF ?kK ?k6 ?k7 ?k8 ?k9 ?kB ?kD ?_ ?c2 ?c3 ?c4; (case kA => exact rfl); (case kF => exact rfl); (case kK => assumption); (case k1 => k_asm); (case k2 => k_asm); (case k3 => k_asm); (case k5 => k_asm); (case k6 => k_is); (case k7 => k_is); (case k8 => ktr_room); (case k9 => exact BindsTo.of_eq rfl); (case kB => exact rfl); (case kD => decide +kernel); (case c2 => exact rfl); (case c3 => exact rfl); (case c4 => exact rfl); k_whole; intro L' h' tk' cells' F' N' Y' B' X' T'; k_cells Y'; (try simp only [List.cons_append, List.nil_append] at N'); (try dsimp only); (try k_lift B'); (try k_fold))
  k_steps
  all_goals (try k_data)
  refine unhalt ?_
  rename News _ _ _ _ => N1
  obtain ⟨nw1, hnw1⟩ := newsName N1
  refine LCg.CompSrc.base (by rfl) (by k_asm) (by k_asm) hl (by rw [List.size_toArray, sizeLine_eq]; omega) ?_
  intro g1
  refine rest_ind (fun i ys nx => nx = nw1 ∧ IntsAre ys ((vs.take i).map costV)) ⟨hnw1.symm, by rw [List.take_zero]; exact .nil⟩ ?_ ?_
  · rintro i ys nx v I oI C oC D m₂ h tk E' hi ⟨hnx, hI⟩ hv hC hx F5 N5 off ne
    obtain ⟨hi', hv1, hv2⟩ := item_of hv
    obtain ⟨bs, t, rfl, hb⟩ := hB v hv1
    rw [hnx, hnw1] at N5 off
    have off0 := off
    simp only [LCg.Off3, and_true] at off
    k_steps
    all_goals (try k_data)
    refine unhalt ?_
    rename News _ _ _ _ => N9
    refine LCg.CompEnd.intro (by assumption) N9 _ sub_all off0 (Or.inl hl) ⟨hnw1.symm, ?_⟩
    rw [List.take_add_one, hv2, List.map_append]
    exact hI.append (.cons _ _ .nil)
  · rintro ys nx ⟨hnx, hI⟩
    rw [List.size_toArray, List.take_length] at hI
    rw [hnx, hnw1]
    clear hnx hnw1 N1
    k_steps
    all_goals (try k_data)
    refine unhalt ?_
    rename News _ _ _ _ => N2
    rename EInv _ _ _ _ 1 _ => ei9
    obtain ⟨fs, hfs⟩ := einvName ei9
    subst hfs
    obtain ⟨nw2, hnw2⟩ := newsName N2
    refine LCg.CompSrc.range (n := fs.length) (by rfl) (by k_asm) (by k_asm) (by assumption) (by first | exact small_one (by omega) (by omega) (by omega) (by omega) | decide) (by first | exact rangeSize_nat _ _ | rfl) (by rw [sizeLine_eq]; omega) ?_
    intro g2
    refine rest_ind (fun i ys nx => ∃ po, po.length = i ∧ ys = po.map (fun q => Value.ref q.1) ∧ nx = nw2 ++ pagesL vs (kind != 13) fs po) ⟨[], rfl, rfl, by rw [← hnw2]; exact (List.append_nil _).symm⟩ ?_ ?_
    · rintro i ys nx v I oI C oC D m₂ h tk E' hi ⟨po, hpo, hys, hnx⟩ ⟨tv, hv⟩ hC hx F5 N5 off ne
      subst hv
      subst hpo
      rw [hnx] at off N5
      have off0 := off
      rw [hnw2] at N5 off
      simp only [List.cons_append, List.nil_append] at N5 off
      simp only [LCg.Off3, and_true] at off
      have hSl : (startsL (kind != 13) fs).length = fs.length := startsL_len (by omega)
      have hS : (startsL (kind != 13) fs).getD (0 + (po.length : Int)).toNat 0 = sAt (kind != 13) fs po.length := by rw [show (0 + (po.length : Int)).toNat = po.length by omega]; exact startsL_at (by omega)
      have hE : fs.getD (0 + (po.length : Int)).toNat 0 = eAt fs po.length := by rw [show (0 + (po.length : Int)).toNat = po.length by omega]; rfl
      have hp := ei9.page po.length (by omega)
      rw [List.length_map] at hp
      k_steps
      all_goals (try k_data)
      refine unhalt ?_
      rename News _ _ _ _ => N9
      rw [hS, hE, pick_slice hp.1 hp.2.1 hp.2.2.1] at N9
      have lI := Heap.lt_size (N5 _ (.head _)).1
      have lC := Heap.lt_size (N5 _ (.tail _ (.head _))).1
      have lD := Heap.lt_size (N5 _ (.tail _ (.tail _ (.head _)))).1
      have N8 := n8 (l := nw2) (tl := pagesL vs (kind != 13) fs po) N9 (by rw [hnw2]; rfl)
      refine LCg.CompEnd.intro (by assumption) N8 (nw2 ++ (pagesL vs (kind != 13) fs po ++ [pgObj vs (kind != 13) fs po.length (h.objs.size + 1, 0)])) sub_pages ?_ trivial ⟨po ++ [(h.objs.size + 1, 0)], ?_, ?_, ?_⟩
      · rw [← List.append_assoc]
        exact off3_snoc off0 (Nat.ne_of_gt (Nat.lt_succ_of_lt lI)) (Nat.ne_of_gt (Nat.lt_succ_of_lt lC)) (Nat.ne_of_gt (Nat.lt_succ_of_lt lD))
      · rw [List.length_append]; rfl
      · rw [hys, List.map_append]; rfl
      · rw [pagesL_snoc]
    · rintro ys2 nx2 ⟨po, hpo, hys, hnx⟩
      rw [hnx, hnw2]
      simp only [List.cons_append, List.nil_append]
      clear hnx
      subst hys
      rename FE _ _ _ _ => fe9
      k_steps
      all_goals (try k_data)
      · refine unhalt ?_
        rename kind ≠ 13 => hk9
        have hb9 : (kind != 13) = true := by simpa using hk9
        rename News _ _ _ _ => N3
        rename IntsAre _ (List.take (fs.length - 1) fs) => I3
        obtain ⟨nw3, hnw3⟩ := newsName N3
        refine LCg.CompSrc.ledger (by rfl) (by k_asm) (by k_asm) (by k_mem) (by rw [List.size_toArray, I3.length, List.length_take, sizeLine_eq]; omega) ?_
        intro g3
        refine rest_ind (fun i ys nx => nx = nw3 ∧ ys = ((fs.take (fs.length - 1)).take i).map (fun e => vs.getD e.toNat .none)) ⟨hnw3.symm, by rw [List.take_zero]; rfl⟩ ?_ ?_
        · rintro i ys nx v I oI C oC D m₂ h tk E' hi ⟨hnx, hys3⟩ hv hC hx F5 N5 off ne
          obtain ⟨n, tn, hvn, hn⟩ := I3.at i v (item_of hv).2.2
          subst hvn
          have hil : i < fs.length - 1 := by
            have := (List.getElem?_eq_some_iff.mp hn).1
            rw [List.length_take] at this; omega
          have hn2 : n = eAt fs i := by
            rw [List.getElem?_take, if_pos hil] at hn
            unfold eAt
            rw [List.getD_eq_getElem?_getD, hn]; rfl
          have hp := ei9.page i (by omega)
          have hbl := ei9.below i (by omega)
          rw [List.length_map] at hp hbl
          have hlo : 0 ≤ n := by omega
          have hhi : n < (vs.length : Int) := by omega
          have hBL : ByList s.heap rA vs := byList hl
          rw [hnx, hnw3] at off N5
          have off0 := off
          simp only [LCg.Off3, and_true] at off
          k_steps
          all_goals (try k_data)
          refine unhalt ?_
          rename News _ _ _ _ => N9
          refine LCg.CompEnd.intro (by assumption) N9 _ sub_all off0 (Or.inr ⟨_, by k_mem, rfl, _, rfl⟩) ⟨hnw3.symm, ?_⟩
          rw [hys3, List.take_add_one (i := i), hn, List.map_append]
          rfl
        · rintro ys3 nx3 ⟨hnx, hys3⟩
          rw [hnx, hnw3]
          clear hnx
          k_steps
          all_goals (try k_data)
          rename Fr s.heap _ _ _ => F9
          rename News s.heap _ _ _ => N9
          refine hret _ _ _ _ _ po _ _ _ _ _ F9.keep (finN1 N9 fun p hp => by (iterate 7 (refine .tail _ ?_)); exact hp) fe9 ei9 hpo ?_
          rw [hys3]
          unfold midsOf
          rw [if_pos hb9, List.size_toArray, I3.length, List.take_of_length_le (Nat.le_refl _), List.dropLast_eq_take]
      · rename kind = 13 => hk9
        have hb9 : (kind != 13) = false := by simp [hk9]
        rename Fr s.heap _ _ _ => F9
        rename News s.heap _ _ _ => N9
        refine hret _ _ _ _ _ po _ _ _ _ _ F9.keep (finN0 N9 fun p hp => by (iterate 7 (refine .tail _ ?_)); exact hp) fe9 ei9 hpo ?_
        unfold midsOf
        rw [if_neg (by rw [hb9]; exact Bool.false_ne_true)]
end

end
section
theorem off_even : True := by
  w_top off
  trivial
section
variable (w : World) {mean : ExcName → Option Value} {mg mb : Str → Option Value} {dp un : Nat} {gd : Option (List Code)} {cn : Str} {cs : Scope} {a : Addr} {ccd : Value} {cl : List (Str × Addr)} {outer : List Env} {A₀ : Around} {base h₀ : Heap} {L : Addr} {m : Str → Option Value} {s : Shared} {Q E : Value → Shared → Prop}
  (B : Below A₀ base outer h₀) (F : Fr h₀ L s.heap m) (X : (hd.heap_39 w.params).In h₀) (T : Top hd.view_39 (looseW hd.view_39 []) mean mg mb h₀)
  (hk : cs.kind = .function) (hdp : dp + 8 < recursionLimit) (hu : un + 80 < cLine)
include B F X T hk hdp hu
local macro_rules | `(tactic| walk_at "call ref") => `(tactic| (plain_pass; k_here; (refine' cost_call ?w ?B ?F ?X ?T ?hk ?hd ?hu ?hb ?_); (case B => k_asm); (case F => k_asm); (case X => k_asm); (case T => k_asm); (case hk => exact rfl); (case hd => ktr_room); (case hu => ktr_units); (case hb => assumption); k_whole; intro t9 h9 tk9 keep9; (have af9 := after0 (by k_asm) (by k_asm) keep9); (obtain ⟨F9, N9⟩ := af9); clear keep9; (try dsimp only); (try k_fold)))
local macro_rules | `(tactic| walk_at "CompSrc") => `(tactic| (k_here; k_dflt ((refine LCg.CompSrc.base (by rfl) (by k_asm) (by k_asm) (by assumption) (by rw [List.size_toArray, sizeLine_eq]; omega) ?_); intro g5; (refine' cost_rest ?hb (fun ys I oI C oC D m₂ h tk E' bs t hb hC hx F5 N5 off ne => ?_) (fun ys hI => ?_)); (case hb => assumption)); walk_say "COSTS"))
local macro_rules | `(tactic| walk_at "CompEnd") => `(tactic| ((rename News _ _ _ _ => N9); k_dflt (refine LCg.CompEnd.intro (by assumption) N9 _ sub_all (by assumption) (by first | exact trivial | exact Or.inl (by assumption) | exact Or.inr ⟨_, by k_mem, rfl, _, rfl⟩) ⟨rfl, _, rfl⟩)))
local macro_rules | `(tactic| walk_at "call builtin:len") => `(tactic| (k_here; (with_reducible show wpAny _ _ (call (Value.builtin _) [Value.ref _]) _ _ _); k_dflt ((refine' len_by ?F ?l ?f ?_); (case F => k_asm); (case l => with_reducible assumption); (case f => (try simp only [List.length_cons]); omega); k_whole)))
local macro_rules | `(tactic| walk_at "subscriptTail Name Constant ref int") => `(tactic| (k_here; (with_reducible show wpAny _ _ (subscriptTail _ _ (Value.ref _) (Value.int 0 _)) _ _ _); k_dflt ((refine' item_0 ?F ?l ?_ ?d); (case F => k_asm); (case l => with_reducible assumption); (case d => with_unfolding_all rfl); k_whole)))
local macro_rules | `(tactic| walk_at "subscriptTail Name Constant ref int") => `(tactic| (k_here; (with_reducible show wpAny _ _ (subscriptTail _ _ (Value.ref _) (Value.int 1 _)) _ _ _); k_dflt ((refine' item_1 ?F ?l ?_ ?d); (case F => k_asm); (case l => with_reducible assumption); (case d => with_unfolding_all rfl); k_whole)))
local macro_rules | `(tactic| walk_at "subscriptTail Name UnaryOp ref int") => `(tactic| (k_here; k_dflt ((refine' item_last ?F ?l ?a ?_ ?d); (case F => k_asm); (case l => with_reducible assumption); (case a => omega); (case d => with_unfolding_all rfl); k_whole)))
local macro_rules | `(tactic| walk_at "last subscriptTail") => `(tactic| (k_here; k_dflt ((refine' item_last ?F ?l ?a ?_ ?d); (case F => k_asm); (case l => with_reducible assumption); (case a => omega); (case d => with_unfolding_all rfl); k_whole)))
theorem even_call {pg md : Addr} {vs : List Value} {b : Bool} {room : Int} {fs : List Int} {po : List (Addr × Nat)} {len : Nat}
  (hpg : s.heap.IsList pg (po.map (fun q => Value.ref q.1)).toArray) (hpages : ∀ (k : Nat) (q : Addr × Nat), po[k]? = some q → s.heap.IsList q.1 (slice vs b fs k).toArray) (hmd : s.heap.IsList md (midsOf vs b fs).toArray)
  (hB : ∀ v ∈ vs, IsBytes v) (hlen : vs.length < 2 ^ 20) (hpo : po.length = fs.length) (hei : EInv b room (vs.map costV) len 1 fs) (hpo2 : po.length < 2 ^ 20)
  (hret : ∀ h' tk', (∀ b o, s.heap.get? b = some o → h'.get? b = some o) → Q (.bool true) { s with heap := h', toks := tk' }) :
  wpAny (model PySem.Challenge.rw_nt0090_01.row.prog w) (ktrTop dp un gd cn cs L a ccd cl outer) (call (.ref 103) [.ref pg, .ref md, .bool b]) Q E s := by
  have hlen1 := hei.len_eq
  have hj := hei.j_hi
  match po, hpo, hpages, hpg, hpo2 with
  | [], h, _, _, _ => simp at h; omega
  | [q0], h, hpages, hpg, _ =>
    have hP : ByList s.heap pg [.ref q0.1] := byList hpg
    have hsz : (List.map (fun q : Addr × Nat => Value.ref q.1) [q0]).toArray.size = 1 := rfl
    refine wpAny_call ?_
    k_dflt (refine' enterP ?k1 ?k2 ?k3 ?k5 ?kA ?kF ?kK ?k6 ?k7 ?k8 ?k9 ?kB ?_ ?c2 ?c3 ?c4 ?c5; (case kA => exact rfl); (case kF => exact rfl); (case kK => assumption); (case k1 => k_asm); (case k2 => k_asm); (case k3 => k_asm); (case k5 => k_asm); (case k6 => k_is); (case k7 => k_is); (case k8 => ktr_room); (case k9 => exact BindsTo.of_eq rfl); (case c5 => decide); (case kB => exact locs rfl); (case c2 => exact rfl); (case c3 => exact rfl); (case c4 => exact rfl); k_whole; intro L' h' F' N' B' X' T'; (try dsimp only); (try k_lift B'); (try k_fold))
    k_steps
    all_goals (try k_data)
    rename Fr s.heap _ _ _ => F9
    exact hret _ _ F9.keep
  | q0 :: q1 :: rest, h, hpages, hpg, hpo2 =>
    have hP : ByList s.heap pg (.ref q0.1 :: .ref q1.1 :: rest.map (fun q => Value.ref q.1)) := byList hpg
    have hP0 : s.heap.IsList q0.1 (slice vs b fs 0).toArray := hpages 0 q0 rfl
    have hP1 : s.heap.IsList q1.1 (slice vs b fs 1).toArray := hpages 1 q1 rfl
    have hL0 : ByList s.heap q0.1 (slice vs b fs 0) := byList hP0
    have hL1 : ByList s.heap q1.1 (slice vs b fs 1) := byList hP1
    have hB0 : ∀ v ∈ slice vs b fs 0, IsBytes v := fun v hv => hB v (slice_mem hv)
    have hB1 : ∀ v ∈ slice vs b fs 1, IsBytes v := fun v hv => hB v (slice_mem hv)
    simp only [List.length_cons, List.length_map] at h hpo2
    have hlm : (rest.map (fun q => Value.ref q.1)).length = rest.length := List.length_map _
    have p0 := hei.page 0 (by omega)
    have p1 := hei.page 1 (by omega)
    rw [List.length_map] at p0 p1
    have l0 := slice_len p0.1 p0.2.1 p0.2.2.1
    have l1 := slice_len p1.1 p1.2.1 p1.2.2.1
    have hsz : (List.map (fun q : Addr × Nat => Value.ref q.1) (q0 :: q1 :: rest)).toArray.size = rest.length + 2 := by simp
    have sl := slice_sum (vs := vs) p0.1 p0.2.1
    have sr := slice_sum (vs := vs) p1.1 p1.2.1
    by_cases h2 : (slice vs b fs 0).length < 2
    · refine wpAny_call ?_
      k_dflt (refine' enterP ?k1 ?k2 ?k3 ?k5 ?kA ?kF ?kK ?k6 ?k7 ?k8 ?k9 ?kB ?_ ?c2 ?c3 ?c4 ?c5; (case kA => exact rfl); (case kF => exact rfl); (case kK => assumption); (case k1 => k_asm); (case k2 => k_asm); (case k3 => k_asm); (case k5 => k_asm); (case k6 => k_is); (case k7 => k_is); (case k8 => ktr_room); (case k9 => exact BindsTo.of_eq rfl); (case c5 => decide); (case kB => exact locs rfl); (case c2 => exact rfl); (case c3 => exact rfl); (case c4 => exact rfl); k_whole; intro L' h' F' N' B' X' T'; (try dsimp only); (try k_lift B'); (try k_fold))
      k_steps
      all_goals (try k_data)
      all_goals (rename Fr s.heap _ _ _ => F9; exact hret _ _ F9.keep)
    · have hlast : (slice vs b fs 0).getD ((slice vs b fs 0).length - 1) .none = vs.getD (eAt fs 0 - 1).toNat .none := by
        rw [← slice_last p0.1 (by omega) p0.2.2.1]
        congr 1
        omega
      have be0 := hei.below 0 (by omega)
      rw [List.length_map] at be0
      have hev := hei.even rfl (by omega) (by omega)
      obtain ⟨bs, tb, hbv, hbs⟩ := byte_get hB (i := (eAt fs 0 - 1).toNat) (by omega)
      obtain ⟨bs', tb', hbv', hbs'⟩ := byte_get hB (i := (eAt fs 0).toNat) (by omega)
      have hc1 : (vs.map costV).getD (eAt fs 0 - 1).toNat 0 = 2 + max 4 (bs.size : Int) := by rw [getD_map (by omega), hbv]; rfl
      have hc2 : (vs.map costV).getD (eAt fs 0).toNat 0 = 2 + max 4 (bs'.size : Int) := by rw [getD_map (by omega), hbv']; rfl
      rw [hbv] at hlast
      have hmids : b = true → ∃ r, midsOf vs b fs = .bytes bs' tb' :: r := by
        intro hb
        unfold midsOf
        rw [if_pos hb]
        match fs, h with
        | [], h => simp at h
        | [x], h => simp at h
        | x :: y :: r, _ => exact ⟨_, by rw [← hbv']; rfl⟩
      refine wpAny_call ?_
      k_dflt (refine' enterP ?k1 ?k2 ?k3 ?k5 ?kA ?kF ?kK ?k6 ?k7 ?k8 ?k9 ?kB ?_ ?c2 ?c3 ?c4 ?c5; (case kA => exact rfl); (case kF => exact rfl); (case kK => assumption); (case k1 => k_asm); (case k2 => k_asm); (case k3 => k_asm); (case k5 => k_asm); (case k6 => k_is); (case k7 => k_is); (case k8 => ktr_room); (case k9 => exact BindsTo.of_eq rfl); (case c5 => decide); (case kB => exact locs rfl); (case c2 => exact rfl); (case c3 => exact rfl); (case c4 => exact rfl); k_whole; intro L' h' F' N' B' X' T'; (try dsimp only); (try k_lift B'); (try k_fold))
      k_steps
      all_goals (try k_data)
      · rename Fr s.heap _ _ _ => F9
        exact hret _ _ F9.keep
      · rw [hlast]
        rcases Bool.eq_false_or_eq_true b with hb | hb
        · obtain ⟨r, hr⟩ := hmids hb
          have hMd : ByList s.heap md (.bytes bs' tb' :: r) := byList (hr ▸ hmd)
          have hg : gainAt b (vs.map costV) fs 0 = 2 + max 4 (bs'.size : Int) := by unfold gainAt; rw [if_pos hb, hc2]
          rw [hc1, hg] at hev
          k_steps
          all_goals (try k_data)
          rename Fr s.heap _ _ _ => F9
          rw [decide_eq_true (by rw [sl, sr]; exact hev)]
          exact hret _ _ F9.keep
        · have hg : gainAt b (vs.map costV) fs 0 = 2 + max 4 (bs.size : Int) := by unfold gainAt; rw [if_neg (by simp [hb]), hc1]
          rw [hc1, hg] at hev
          k_steps
          all_goals (try k_data)
          rename Fr s.heap _ _ _ => F9
          rw [decide_eq_true (by rw [sl, sr]; exact hev)]
          exact hret _ _ F9.keep
end

end
section
theorem off_tools3 : True := by
  w_top off
  trivial
section
variable {h₀ h h' : Heap} {L r : Addr} {m : Str → Option Value} {news news' tl : List (Addr × Obj)} {o o' : Obj}
theorem useM {G : Prop} (F : Fr h₀ L h m) (N : News h₀ L h news) (U : Upd r o o' news news') (k : ∀ b ob, b ≠ r → h.get? b = some ob → h'.get? b = some ob) (hr : h'.get? r = some o') (g : Fr h₀ L h' m → News h₀ L h' news' → G) : G :=
  g (afterM F N U k hr).1 (afterM F N U k hr).2
theorem useL {G : Prop} {q1 q2 q3 : Addr × Obj} (F : Fr h₀ L h m) (N : News h₀ L h news) (k : ∀ b ob, h.get? b = some ob → h'.get? b = some ob) (hall : ∀ p ∈ q1 :: q2 :: q3 :: tl, h.get? p.1 = none ∧ h'.get? p.1 = some p.2)
    (g : Fr h₀ L h' m → News h₀ L h' (q1 :: q2 :: q3 :: (news ++ tl)) → G) : G := by
  refine g (F.keeps k) fun p hp => ?_
  have hnew : ∀ p ∈ q1 :: q2 :: q3 :: tl, h'.get? p.1 = some p.2 ∧ p.1 ≠ L ∧ h₀.get? p.1 = none := by
    intro p hp
    have x := hall p hp
    refine ⟨x.2, fun e => ?_, ?_⟩
    · obtain ⟨oL, _, _, hL, _⟩ := F.ns
      have x1 := x.1
      rw [e, hL] at x1; cases x1
    · cases e : h₀.get? p.1 with
      | none => rfl
      | some y => have x1 := x.1; rw [F.keep _ _ e] at x1; cases x1
  rcases List.mem_cons.mp hp with rfl | hp
  · exact hnew _ (.head _)
  rcases List.mem_cons.mp hp with rfl | hp
  · exact hnew _ (.tail _ (.head _))
  rcases List.mem_cons.mp hp with rfl | hp
  · exact hnew _ (.tail _ (.tail _ (.head _)))
  rcases List.mem_append.mp hp with hp | hp
  · exact ⟨k _ _ (N p hp).1, (N p hp).2⟩
  · exact hnew _ (.tail _ (.tail _ (.tail _ hp)))
end
section
variable (w : World) {mean : ExcName → Option Value} {mg mb : Str → Option Value} {dp un : Nat} {gd : Option (List Code)} {cn : Str} {cs : Scope} {a : Addr} {ccd : Value} {cl : List (Str × Addr)} {outer : List Env} {A₀ : Around} {base h₀ : Heap} {L : Addr} {m : Str → Option Value} {s : Shared} {Q E : Value → Shared → Prop}
theorem draw_callN (B : Below A₀ base outer h₀) (F : Fr h₀ L s.heap m) (X : (hd.heap_39 w.params).In h₀) (T : Top hd.view_39 (looseW hd.view_39 []) mean mg mb h₀)
  (hk : cs.kind = .function) (hdp : dp + 5 < recursionLimit) (hu : un + 50 < cLine) {news : List (Addr × Obj)} {sA : Addr} {S M many : Int} {t1 t2 tm : Tok} {sn : Nat} (N : News h₀ L s.heap news) (hm : (sA, listOf #[.int S t1, .int M t2] sn) ∈ news) (hS : 0 ≤ S) (hM : 0 ≤ M) (hM' : M < 2147483647) (hmany : 1 ≤ many) (hmany' : many < 1000)
  (hret : ∀ v t S' M' t1' t2' h' tk', 0 ≤ v → v < many → 0 ≤ S' → 0 ≤ M' → M' < 2147483647 → (∀ b o, b ≠ sA → s.heap.get? b = some o → h'.get? b = some o) → h'.get? sA = some (listOf #[.int S' t1', .int M' t2'] sn) → Q (.int v t) { s with heap := h', toks := tk' }) :
  wpAny (model PySem.Challenge.rw_nt0090_01.row.prog w) (ktrTop dp un gd cn cs L a ccd cl outer) (call (.ref 91) [.ref sA, .int many tm]) Q E s :=
  draw_call w B F X T hk hdp hu (N _ hm).1 (N _ hm).2.1 (N _ hm).2.2 hS hM hM' hmany hmany' hret
end
theorem ifExp_join {M : Model} {A : Around} {E : Value → Shared → Prop} {s : Shared} {env : Env} {test : Expr} {pos p1 p2 : Pos} {k1 k2 n1 n2} {Q : Value → Shared → Prop}
    (h : wpAny M A (isTrue test env (eval test env)) (fun b s₂ => Q (.int (if b = true then n1 else n2) s₂.toks) { s₂ with toks := s₂.toks + 1 }) E s) :
    wpAny M A (eval (.IfExp test (.Constant (.int n1) k1 p1) (.Constant (.int n2) k2 p2) pos) env) Q E s := by
  refine wpAny_IfExp (wpAny_mono h (fun b s₂ hq => ?_) fun _ _ e => e)
  cases b
  · exact wpAny_Constant_int (by simpa using hq)
  · exact wpAny_Constant_int (by simpa using hq)
theorem nm5 {h₀ h : Heap} {L a1 a2 a3 a4 a5 : Addr} {o1 o2 o3 o5 : Obj} {S M : Int} {t1 t2 : Tok} {rn : Nat} (_ : News h₀ L h [(a1, o1), (a2, o2), (a3, o3), (a4, listOf #[.int S t1, .int M t2] rn), (a5, o5)]) :
    ∃ a1' a4' S' M' t1' t2' rn' o5', a1' = a1 ∧ a4' = a4 ∧ S' = S ∧ M' = M ∧ t1' = t1 ∧ t2' = t2 ∧ rn' = rn ∧ o5' = o5 := ⟨a1, a4, S, M, t1, t2, rn, o5, rfl, rfl, rfl, rfl, rfl, rfl, rfl, rfl⟩
theorem intName {x y : Int} (_ : x < y) : ∃ z, z = x := ⟨x, rfl⟩
def ByteOk (lon : Int) (v : Value) : Prop := ∃ bs t, v = .bytes bs t ∧ 4 ≤ bs.size ∧ (bs.size : Int) ≤ lon
theorem flat_rep {α : Type} {m : Nat} {k n : α} (h : n ∈ (List.replicate m [k]).flatten) : n = k := by
  rw [List.mem_flatten] at h
  obtain ⟨l, hl, hn⟩ := h
  rw [List.eq_of_mem_replicate hl] at hn
  exact List.mem_singleton.mp hn
theorem sub_3 {q1 q2 q3 x y : Addr × Obj} {own : List (Addr × Obj)} : ∀ p ∈ [q1, q2, q3], p ∈ x :: y :: q1 :: q2 :: q3 :: own := by
  intro p hp
  rcases List.mem_cons.mp hp with rfl | hp
  · exact .tail _ (.tail _ (.head _))
  rcases List.mem_cons.mp hp with rfl | hp
  · exact .tail _ (.tail _ (.tail _ (.head _)))
  rw [List.mem_singleton.mp hp]
  exact .tail _ (.tail _ (.tail _ (.tail _ (.head _))))
theorem own_3 {q1 q2 q3 x y : Addr × Obj} {own : List (Addr × Obj)} : ∀ p ∈ own, p ∈ x :: y :: q1 :: q2 :: q3 :: own := fun _ hp => .tail _ (.tail _ (.tail _ (.tail _ (.tail _ hp))))
theorem rgName {h : Heap} {r : Addr} {v : Int} {t u x : Tok} (_ : IsRange h r 0 (2 + v) 1 t u x) : ∃ z, z = v := ⟨v, rfl⟩
def CutPost (h₀ : Heap) (L : Addr) (m : Str → Option Value) (news : List (Addr × Obj)) (s : Shared) (f : Flow) (s' : Shared) : Prop := f = .next ∧ ∃ h' tk', s' = { s with heap := h', toks := tk' } ∧ Fr h₀ L h' m ∧ News h₀ L h' news
theorem cut_end {h₀ h' : Heap} {L : Addr} {m : Str → Option Value} {news nw : List (Addr × Obj)} {s : Shared} {tk' : Nat} (F : Fr h₀ L h' m) (N : News h₀ L h' nw) (hs : ∀ p ∈ news, p ∈ nw) : CutPost h₀ L m news s .next { s with heap := h', toks := tk' } := ⟨rfl, h', tk', rfl, F, fun p hp => N p (hs p hp)⟩
theorem cut_stmt {M : Model} {A : Around} {E : Value → Shared → Prop} {s : Shared} {env : Env} {st : Stmt} {rest : List Stmt} {Q : Flow → Shared → Prop} {h₀ : Heap} {L : Addr} {m : Str → Option Value} {news : List (Addr × Obj)} (F : Fr h₀ L s.heap m) (N : News h₀ L s.heap news)
    (h1 : wpAny M A (exec st env) (CutPost h₀ L m news s) E s) (h2 : ∀ h' tk', Fr h₀ L h' m → News h₀ L h' news → wpAny M A (execs rest env) Q E { s with heap := h', toks := tk' }) : wpAny M A (execs (st :: rest) env) Q E s := by
  refine wpAny_execs_cons (wpAny_mono h1 (fun f s' hq => ?_) fun _ _ e => e)
  obtain ⟨rfl, h', tk', rfl, F', N'⟩ := hq
  exact h2 h' tk' F' N'
theorem len_news {prog : Program} {w : World} {A : Around} {E : Value → Shared → Prop} {s : Shared} {h₀ : Heap} {L l : Addr} {news : List (Addr × Obj)} {vs : List Value} {n : Nat} {Q : Value → Shared → Prop}
    (N : News h₀ L s.heap news) (hm : (l, listOf vs.toArray n) ∈ news) (hfit : vs.length < 2 ^ 21) (h : Q (.int (vs.length : Nat) (s.toks + 1)) { s with toks := s.toks + 1 + 1 }) : wpAny (model prog w) A (call (.builtin "len") [.ref l]) Q E s := by
  have hl' : s.heap.IsList l vs.toArray := ⟨_, (N _ hm).1, rfl, n, rfl⟩
  exact Calls.call_len_list hl' (by rw [List.size_toArray]; omega) (by rw [List.size_toArray]; exact h)

end
section
theorem off_law : True := by
  w_top off
  trivial
local macro_rules | `(tactic| walk_at "call ref") => `(tactic| (k_here; k_dflt ((refine' cost_call ?w ?B ?F ?X ?T ?hk ?hd ?hu ?hb ?_); (case B => k_asm); (case F => k_asm); (case X => k_asm); (case T => k_asm); (case hk => exact rfl); (case hd => ktr_room); (case hu => ktr_units); (case hb => assumption); k_whole; intro t9 h9 tk9 keep9; (have af9 := after0 (by k_asm) (by k_asm) keep9); (obtain ⟨F9, N9⟩ := af9); clear keep9; (try dsimp only)); (try k_fold)))
local macro_rules | `(tactic| walk_at "call ref") => `(tactic| (k_here; k_dflt ((refine' source_call ?w ?B ?F ?X ?T ?hk ?hd ?hu ?hl ?hI ?hn ?_); (case B => k_asm); (case F => k_asm); (case X => k_asm); (case T => k_asm); (case hk => exact rfl); (case hd => ktr_room); (case hu => ktr_units); (case hl => first | is_list | exact Fr.lst (by k_asm) (by k_asm)); (case hI => l_ints); (case hn => omega); k_whole; intro r9 S9 M9 t19 t29 rn9 h9 tk9 keep9 fr9 at9 slo9 mlo9 mhi9; (have af9 := after1 (by k_asm) (by k_asm) keep9 fr9 at9); (obtain ⟨F9, N9, ne9⟩ := af9); (try simp only [LCg.Off1, and_true] at ne9); clear keep9 fr9 at9; (try dsimp only)); (try k_fold)))
local macro_rules | `(tactic| walk_at "call ref") => `(tactic| (k_here; k_dflt ((refine' draw_callN ?w ?B ?F ?X ?T ?hk ?hd ?hu ?hN ?hm ?hS ?hM ?hM2 ?h1 ?h2 ?_); (case B => k_asm); (case F => k_asm); (case X => k_asm); (case T => k_asm); (case hk => exact rfl); (case hd => ktr_room); (case hu => ktr_units); (case hN => k_asm); (case hm => k_mem); (case hS => assumption); (case hM => assumption); (case hM2 => assumption); (case h1 => omega); (case h2 => omega); k_whole; intro v9 t9 S9 M9 t19 t29 h9 tk9 vlo9 vhi9 slo9 mlo9 mhi9 keep9 at9; (refine' useM ?ua ?ub ?uc keep9 at9 ?_); (case ua => k_asm); (case ub => k_asm); (case uc => k_upd); intro F9 N9; clear keep9 at9; (try dsimp only)); (try k_fold)))

local macro_rules | `(tactic| walk_at "eval IfExp") => `(tactic| (k_here; (with_reducible refine ifExp_join ?_)))

local macro_rules | `(tactic| walk_at "call ref") => `(tactic| (k_here; (with_reducible show wpAny _ _ (call (Value.ref 77) _) _ _ _); refine halt ?_; walk_say "HALT"))
local macro_rules | `(tactic| walk_at "call ref") => `(tactic| (k_here; (with_reducible show wpAny _ _ (call (Value.ref 98) _) _ _ _); refine halt ?_; walk_say "HALT"))
local macro_rules | `(tactic| walk_at "call ref") => `(tactic| (k_here; (with_reducible show wpAny _ _ (call (Value.ref 103) _) _ _ _); refine halt ?_; walk_say "HALT"))
local macro_rules | `(tactic| walk_at "execs cons") => `(tactic| (k_here; (with_reducible show wpAny _ _ (execs (Stmt.If _ _ _ _ :: _) _) _ _ _); refine halt ?_; walk_say "HALT IF"))
local macro_rules | `(tactic| walk_at "call builtin:len") => `(tactic| (k_here; (with_reducible show wpAny _ _ (call (Value.builtin _) [Value.ref _]) _ _ _); k_dflt ((refine' len_news ?N ?l ?f ?_); (case N => k_asm); (case l => k_mem); (case f => omega); k_whole)))
local macro_rules | `(tactic| walk_at "CutPost") => `(tactic| (refine halt ?_; walk_say "HALT"))
local macro_rules | `(tactic| walk_at "TurnPost") => `(tactic| (refine halt ?_; walk_say "HALT"))
local macro_rules | `(tactic| walk_at "NoneEnd") => `(tactic| (refine halt ?_; walk_say "HALT"))
local macro_rules | `(tactic| walk_at "CompSrcT") => `(tactic| (refine halt ?_; walk_say "HALT"))
local macro_rules | `(tactic| walk_at "compareOp NotEq ref ref") => `(tactic| (k_here; (with_reducible show wpAny _ _ (compareOp CmpOp.NotEq (Value.ref _) (Value.ref _)) _ _ _); k_dflt ((refine' ne_same ?N ?a ?b ?u ?_); (case N => k_asm); (case a => k_mem); (case b => k_mem); (case u => (first | exact Nat.le_of_ble_eq_true rfl | ktr_units | ke_room)); k_whole)))
local macro_rules | `(tactic| walk_at "compareOp Eq ref ref") => `(tactic| (k_here; (with_reducible show wpAny _ _ (compareOp CmpOp.Eq (Value.ref _) (Value.ref _)) _ _ _); k_dflt ((refine' eq_nil ?N ?a ?b ?e ?u ?_); (case N => k_asm); (case b => k_mem); (case a => (repeat (first | assumption | refine List.mem_cons_of_mem _ ?_))); (case e => omega); (case u => (first | exact Nat.le_of_ble_eq_true rfl | ktr_units | ke_room)); k_whole)))
local macro_rules | `(tactic| walk_at "binaryOp Add ref ref") => `(tactic| (k_here; (with_reducible show wpAny _ _ (binaryOp _ (Value.ref _) (Value.ref _)) _ _ _); k_dflt ((refine' add_news ?F ?N ?a ?b ?_ ?z); (case F => k_asm); (case N => k_asm); (case a => k_mem); (case b => (first | k_mem | (repeat (first | assumption | refine List.mem_cons_of_mem _ ?_)))); (case z => (rw [sizeLine_eq]; (try simp only [List.length_append, List.length_cons, List.length_nil]); omega)); intro D' h' F' N' l1; (try k_lt l1))))
local macro_rules | `(tactic| walk_at "subscriptTail Name Name ref int") => `(tactic| (k_here; (with_reducible show wpAny _ _ (subscriptTail _ _ (Value.ref _) (Value.int _ _)) _ _ _); k_dflt ((refine' item_news ?N ?m ?a ?b ?c ?_ ?d); (case N => k_asm); (case m => k_mem); (case a => omega); (case b => omega); (case c => omega); (case d => with_unfolding_all rfl); k_whole)))
local macro_rules | `(tactic| walk_at "subscriptTail Name Name ref int") => `(tactic| (k_here; (with_reducible show wpAny _ _ (subscriptTail _ _ (Value.ref _) (Value.int _ _)) _ _ _); k_dflt ((refine' page_item ?N ?m ?q ?a ?c ?_ ?d); (case N => k_asm); (case m => k_mem); (case q => assumption); (case a => omega); (case c => omega); (case d => with_unfolding_all rfl); k_whole)))
local macro_rules | `(tactic| walk_at "eval ListComp") => `(tactic| (k_here; lct_look; k_dflt (refine LCt.ListComp_T (F₀ := by k_asm) (by with_unfolding_all rfl) (by decide) (by rfl) (by decide) (by rfl) ?_); k_dflt lct_toSrc))
local macro_rules | `(tactic| walk_at "CompSrc") => `(tactic| (k_here; k_dflt ((refine LCg.CompSrc.ledger (by rfl) (by k_asm) (by k_asm) (by (first | k_mem | (repeat (first | assumption | refine List.mem_cons_of_mem _ ?_)))) (by rw [List.size_toArray, sizeLine_eq]; omega) ?_); intro g5; (refine' cost_rest ?hb (fun ys I oI C oC D m₂ h tk E' bs t hb hC hx F5 N5 off ne => ?_) (fun ys hI => ?_)); (case hb => assumption)); walk_say "COSTS"))
local macro_rules | `(tactic| walk_at "CompEnd") => `(tactic| ((rename News _ _ _ _ => N9); k_dflt (refine LCg.CompEnd.intro (by assumption) N9 _ sub_all (by assumption) (Or.inr ⟨_, (by (first | k_mem | (repeat (first | assumption | refine List.mem_cons_of_mem _ ?_)))), rfl, _, rfl⟩) ⟨rfl, _, rfl⟩)))
theorem law_holds : PySem.Challenge.rw_nt0090_01.Holds := hd (by
  w_strict (
    k_go0
    all_goals try k_fold
    k_steps
    all_goals (try k_data)
    refine unhalt ?_
    rename Shared => s1
    rename News _ _ _ _ => N1
    obtain ⟨aR, aS, S1, M1, t11, t12, rn1, o5, e1, e2, e3, e4, e5, e6, e7, e8⟩ := nm5 N1
    subst e1 e2 e3 e4 e5 e6 e7 e8
    rename _ < (40 : Int) => h40
    obtain ⟨vl, e1⟩ := intName h40
    subst e1
    rename IsRange _ _ _ _ _ _ _ _ => rg1
    rename Fr _ _ _ _ => F1
    obtain ⟨vn, e1⟩ := rgName rg1
    subst e1
    have hn29 : vn < 29 := by
      rename vn < _ => hx
      split at hx <;> omega
    have hn0 : 0 ≤ vn := by assumption
    refine kst_range (σ := List Value × Nat × Int × Tok × Int × Tok)
      (fun c => [(aR, listOf c.1.toArray c.2.1), (aS, listOf #[.int c.2.2.1 c.2.2.2.1, .int c.2.2.2.2.1 c.2.2.2.2.2] rn1), (s1.heap.objs.size + 1, o5)])
      (fun _ => []) (fun _ => True) [] (fun pr c => c.1.length = pr.length ∧ (∀ v ∈ c.1, ByteOk (4 + vl) v) ∧ 0 ≤ c.2.2.1 ∧ 0 ≤ c.2.2.2.2.1 ∧ c.2.2.2.2.1 < 2147483647)
      ([], 0, S1, t11, M1, t12) (by rfl) rg1 (by exact small_one (by omega) (by omega) (by omega) (by omega)) (rangeSize_nat _ _) F1 ?_ trivial (by intro p hp; cases hp) ?_ ?_ ?_
    · intro p hp
      rcases List.mem_cons.mp hp with rfl | hp
      · exact N1 _ (.head _)
      rcases List.mem_cons.mp hp with rfl | hp
      · exact N1 _ (.tail _ (.tail _ (.tail _ (.head _))))
      rw [List.mem_singleton.mp hp]
      exact N1 _ (.tail _ (.tail _ (.tail _ (.tail _ (.head _)))))
    · exact ⟨rfl, (fun v hv => absurd hv List.not_mem_nil), by assumption, by assumption, by assumption⟩
    · rintro ⟨rv, rk, S2, t21, M2, t22⟩ pr k tk2 u h2 tkk own hk hpr hoff _ ⟨hlr, hbr, hS2, hM2, hM2'⟩ F2 N2
      dsimp only [kstB] at hlr hbr hS2 hM2 hM2' F2 N2 hoff
      have hmk := kstMark
      (try simp only [List.cons_append, List.nil_append] at N2)
      k_steps
      all_goals (try k_data)
      rename IntsAre (List.flatten _) (List.flatten _) => i1
      rename List.length (List.flatten _) = _ => e1
      rename _ < 4 + vl - 3 => hv3
      have hkb : k < 31 := by
        omega
      refine KBa.make_K (by k_asm) (by k_asm) (by rfl) (News.isList (by k_asm) (by k_mem)) i1 (fun n hn => by have := flat_rep hn; omega) (by omega) ?_
      intro h7 t7 k7 F7 N7 _
      k_steps
      all_goals (try k_data)
      refine unhalt ?_
      (rename News _ _ _ _ => nE')
      (try simp only [List.push_toArray] at nE')
      refine kst_end (_, _, _, _, _, _) (by assumption) nE' sub_3 own_3 (by rfl) trivial (by kst_all) (by kst_same) ?_
      refine ⟨?_, ?_, by assumption, by assumption, by assumption⟩
      · dsimp only
        rw [List.length_append, List.length_append, hlr]; rfl
      · dsimp only
        intro v hv
        rcases List.mem_append.mp hv with hv | hv
        · exact hbr v hv
        · rw [List.mem_singleton.mp hv]
          refine ⟨_, _, rfl, ?_, ?_⟩
          · rw [byteArr_size, e1]; omega
          · rw [byteArr_size, e1]; omega
    · rintro ⟨rv, rk, S2, t21, M2, t22⟩ u h2 tkk _ ⟨hlr, hbr, hS2, hM2, hM2'⟩ F2 N2
      dsimp only [kstB] at hlr hbr hS2 hM2 hM2' F2 N2
      rw [rangeKs_length] at hlr
      have hlen1 : 0 < rv.length := by omega
      have hlen2 : rv.length < 32 := by omega
      k_steps
      all_goals (try k_data)
      refine unhalt ?_
      refine shared_call _ (by k_asm) (by k_asm) (by k_asm) (by k_asm) (by exact rfl) (by ktr_room) (by ktr_units) (vs := rv) (News.isList (by k_asm) (by k_mem)) ?_ hlen1 (by omega) ?_ ?_
      · intro v hv
        obtain ⟨bs, t, rfl, h4, hl⟩ := hbr v hv
        exact ⟨bs, t, rfl, by omega⟩
      · intro c hc
        obtain ⟨v, hv, rfl⟩ := List.mem_map.mp hc
        obtain ⟨bs, t, rfl, h4, hl⟩ := hbr v hv
        show 0 < 2 + max 4 (bs.size : Int) ∧ 2 * (2 + max 4 (bs.size : Int)) ≤ _
        omega
      intro t9 pg md es fs po mids pn mn h9 tk9 keep9 hall9 fe9 ei9 hpo hmids
      refine useL (by k_asm) (by k_asm) keep9 hall9 ?_
      intro F9 N9
      simp only [List.cons_append, List.nil_append] at N9
      clear keep9 hall9
      dsimp only
      try k_fold
      k_steps
      all_goals (try k_data)
      refine unhalt ?_
      have hlf := ei9.len_eq
      have hjh := ei9.j_hi
      have few9 := fe9.few
      rw [List.length_map] at few9
      have hpl : (List.map (fun q : Addr × Nat => Value.ref q.1) po).length = fs.length := by rw [List.length_map]; exact hpo
      have hml : mids.length ≤ fs.length := by
        rw [hmids]; unfold midsOf; split
        · rw [List.length_map, List.length_dropLast]; omega
        · exact Nat.zero_le _
      refine cut_stmt (by k_asm) (by k_asm) ?_ ?_
      · have hmT := mids_lenT hmids
        have hmF := mids_lenF hmids
        k_steps
        all_goals (try k_data)
        · exfalso
          have hm9 := hmT (by assumption)
          omega
        · exact cut_end (by k_asm) (by k_asm) sub_all
        · exfalso
          have hm9 := hmF (by assumption)
          omega
        · exact cut_end (by k_asm) (by k_asm) sub_all
      · intro h10 tk10 F10 N10
        k_steps
        all_goals (try k_data)
        refine unhalt ?_
        obtain ⟨kv, e1⟩ := kvName fe9
        subst e1
        obtain ⟨rm, e1⟩ := rmName fe9
        subst e1
        rename News _ _ _ _ => N5
        obtain ⟨ta, oc, e1, e2⟩ := toldName N5
        subst e1 e2
        rename Fr _ _ _ _ => F5
        rename IsRange _ _ _ _ _ _ _ _ => rg5
        refine kstA_range (n := fs.length) (σ := Addr × List Value × Nat)
          (fun c => (c.1, listOf c.2.1.toArray c.2.2) :: (pg, listOf (List.map (fun q : Addr × Nat => Value.ref q.1) po).toArray pn) :: (md, listOf mids.toArray mn) :: (aR, listOf rv.toArray rk) :: (s1.heap.objs.size + 1, oc) :: pagesL rv ([(2 : Int), 5, 10, 13].getD kv.toNat 0 != 13) fs po)
          (fun c => [(Str.ofString "told", .ref c.1)]) (fun _ => True) [] (fun i c => c.2.1 = told rv ([(2 : Int), 5, 10, 13].getD kv.toNat 0 != 13) fs i)
          (ta, [], 0) (by rfl) rg5 (by rw [hpl]; exact small_one (by omega) (by omega) (by omega) (by omega)) (by rw [hpl]; exact rangeSize_nat _ _) F5 (fun p hp => N5 p (sub_told p hp)) trivial (by kst_all) (told_zero (by omega)).symm ?_ ?_
        · rintro ⟨tA, tV, tN⟩ i k tk2 u h6 tk6 I oI hk hi hoff _ hp F6 N6
          dsimp only [kstB] at hp F6 N6 hoff
          obtain ⟨q, hq⟩ : ∃ q, po[k.toNat]? = some q := ⟨_, List.getElem?_eq_getElem (by omega)⟩
          have hki : k.toNat = i := by omega
          rw [hki] at hq
          have hpm := page_mem (vs := rv) (b := [(2 : Int), 5, 10, 13].getD kv.toNat 0 != 13) (fs := fs) hq
          rw [← hki] at hq
          have hpg := ei9.page i (by omega)
          rw [List.length_map] at hpg
          have hsl := slice_len hpg.1 hpg.2.1 hpg.2.2.1
          have htl : tV.length ≤ rv.length := by rw [hp]; unfold told; rw [List.length_take]; omega
          k_steps
          all_goals (try k_data)
          refine unhalt ?_
          refine wpAny_execs_cons ?_
          k_steps
          all_goals (try k_data)
          all_goals (refine unhalt ?_)
          all_goals (rename News _ _ _ _ => nE')
          all_goals (obtain ⟨d2, e9⟩ := addr1 nE'; subst e9)
          · have hm9 := mids_lenT hmids (by assumption)
            rename @LT.lt Nat _ _ _ ∧ @LT.lt Nat _ _ _ ∧ @LT.lt Nat _ I _ ∧ _ => l9
            refine turn_end (_, _, _) (by assumption) nE' (by k_mem) sub_turnB (off_turn hoff l9.2.2.1) trivial (by kst_all) (by kst_same) ?_
            dsimp only
            rw [hki, mids_at hmids (by simpa using (by assumption : ¬ _ = (13 : Int))) (by omega), hp]
            exact (told_mid ei9 (by omega) (by simpa using (by assumption : ¬ _ = (13 : Int)))).symm
          · have hm9 := mids_lenT hmids (by assumption)
            rename @LT.lt Nat _ I _ ∧ _ => l9
            refine turn_end (_, _, _) (by assumption) nE' (by k_mem) sub_turnA (off_turn hoff l9.1) trivial (by kst_all) (by kst_same) ?_
            dsimp only
            rw [hp]
            exact (told_last ei9 (by omega)).symm
          · rename @LT.lt Nat _ I _ ∧ _ => l9
            refine turn_end (_, _, _) (by assumption) nE' (by k_mem) sub_turnA (off_turn hoff l9.1) trivial (by kst_all) (by kst_same) ?_
            dsimp only
            rw [hp]
            exact (told_leaf ei9 hi (bF_of (by assumption))).symm
        · rintro ⟨tA, tV, tN⟩ u h6 tk6 _ hp F6 N6
          dsimp only [kstB] at hp F6 N6
          rw [told_all] at hp
          have hp' := hp.symm
          subst hp'
          clear hp
          dsimp only
          have hBs : ∀ v ∈ rv, IsBytes v := fun v hv => by
            obtain ⟨bs, t, rfl, h4, hl⟩ := hbr v hv
            exact ⟨bs, t, rfl, by omega⟩
          have count9 := fe9.count
          refine cut_stmt (by k_asm) (by k_asm) ?_ ?_
          · k_steps
            all_goals (try k_data)
            refine unhalt ?_
            refine LCt.CompSrcT.ledger (its := (List.map (fun q : Addr × Nat => Value.ref q.1) po).toArray) (by rfl) (by k_asm) (by k_asm) (by k_mem) (by rw [List.size_toArray, sizeLine_eq]; omega) ?_
            intro g7
            refine restT_none (fun i v I oI C oC D m₂ h8 tk8 E' hi hv hC hx F8 N8 off ne => ?_) ?_
            · obtain ⟨q, hq, rfl⟩ := page_at hv
              have hil : i < fs.length := by rw [List.size_toArray, hpl] at hi; exact hi
              have hpm := page_mem (vs := rv) (b := [(2 : Int), 5, 10, 13].getD kv.toNat 0 != 13) (fs := fs) hq
              have off0 := off
              simp only [LCg.Off3] at off
              have hpg := ei9.page i (by omega)
              rw [List.length_map] at hpg
              have hne := ei9.nonempty (k := i) (by omega)
              have hsl := slice_len hpg.1 hpg.2.1 hpg.2.2.1
              have hsum := slice_sum (vs := rv) hpg.1 hpg.2.1
              have hBi : ∀ v ∈ slice rv ([(2 : Int), 5, 10, 13].getD kv.toNat 0 != 13) fs i, IsBytes v := fun v hv => hBs v (slice_mem hv)
              k_steps
              all_goals (try k_data)
              refine unhalt ?_
              rename News _ _ _ _ => N9
              exact none_end (by assumption) N9 sub_two off0 (Or.inr ⟨_, by k_mem, rfl, _, rfl⟩)
            · k_steps
              all_goals (try k_data)
              refine unhalt ?_
              rename News _ _ _ _ => N9
              exact cut_end (by k_asm) N9 sub_two
          · intro h10 tk10 F10 N10
            refine cut_stmt (by k_asm) (by k_asm) ?_ ?_
            · k_steps
              all_goals (try k_data)
              refine unhalt ?_
              refine plain_call _ (by k_asm) (by k_asm) (by k_asm) (by k_asm) (by exact rfl) (by ktr_room) (by ktr_units) (co := List.map costV rv) (News.isList (by k_asm) (by k_mem)) (by assumption) (by rw [List.length_map]; omega) ?_
              intro t12 h12 tk12 keep12
              have af12 := after0 (by k_asm) (by k_asm) keep12
              obtain ⟨F12, N12⟩ := af12
              clear keep12
              dsimp only
              try k_fold
              k_steps
              all_goals (try k_data)
              · exfalso
                rename ¬ ((_ : Int) = _) => hx9
                rw [hpl, hlf, count9] at hx9
                exact hx9 rfl
              · refine unhalt ?_
                rename News _ _ _ _ => N9
                exact cut_end (by k_asm) N9 (fun p hp => .tail _ hp)
            · intro h11 tk11 F11 N11
              k_steps
              all_goals (try k_data)
              refine unhalt ?_
              refine even_call _ (by k_asm) (by k_asm) (by k_asm) (by k_asm) (by exact rfl) (by ktr_room) (by ktr_units) (vs := rv) (fs := fs) (po := po) (len := es.length) (room := 2 * (4 + vl + 2) + rm) (News.isList (by k_asm) (by k_mem)) ?_ ?_ hBs (by omega) hpo ei9 (by omega) ?_
              · intro k q hq
                exact ⟨_, (N11 _ (.tail _ (.tail _ (.tail _ (.tail _ (.tail _ (page_mem hq))))))).1, rfl, _, rfl⟩
              · rw [← hmids]
                exact News.isList (by k_asm) (by k_mem)
              intro h12 tk12 keep12
              have af12 := after0 (by k_asm) (by k_asm) keep12
              obtain ⟨F12, N12⟩ := af12
              clear keep12
              dsimp only
              try k_fold
              k_steps
              all_goals (try k_data)))

end
end
end
end
end Mine
theorem PySem.Challenge.cw_nt0090_01_holds : PySem.Challenge.rw_nt0090_01.Holds :=
  Mine.law_holds
