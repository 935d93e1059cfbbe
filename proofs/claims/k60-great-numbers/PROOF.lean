import PyProof.Rows.All
import Wide.All
import OpenK.AllK
import Wide.FinOn
import HandS.ForMost
import HandS.Nested
import HandS.Defaults
import HandS.Head2
import HandS.HeadEnd
import HandS.HeadHook4
import HandS.HeadWalk
import HandS.Style
import HandS.Wide
import HandS.WideBits
import HandS.Star
import HandS.IsInst
import HandS.Steps
import HandS.Conv
import HandS.OwnEq
import HandS.StrMore
import HandS.Rev
import HandS.RevRange
import HandS.Small
import HandS.Dict
import HandS.TupLen
import HandS.WordsDict
import KE.KDictCopyH
import PyProof.InstNe
import PySem.Challenge.RW_buzzround_k60_whole_great_numbers
import HandS.RaiseMore
import HandS.Strs
import HandS.Walk
import HandS.Codes
import HandS.TryOnly
import HandS.Iter
import PyProof.LongRange
import PyProof.Rows.GenSrcRange
import HandS.NestedK
section
set_option maxHeartbeats 400000
set_option autoImplicit false
namespace Bz
/-! figures of numbers; machines as lists of rows -/
def figsF (b : Nat) : Nat → Nat → List Nat
  | 0, _ => []
  | k + 1, n => if n = 0 then [] else figsF b k (n / b) ++ [n % b]
def figs (b n : Nat) : List Nat := figsF b n n
theorem figsF_eq (b : Nat) (hb : 2 ≤ b) : ∀ (k n : Nat), n ≤ k → figsF b k n = figs b n := by
  have key : ∀ (k j n : Nat), n ≤ k → n ≤ j → figsF b k n = figsF b j n := by
    intro k
    induction k with
    | zero => intro j n h1 h2; have : n = 0 := by omega
              subst this; cases j <;> simp [figsF]
    | succ k ih =>
      intro j n h1 h2
      cases j with
      | zero => have : n = 0 := by omega
                subst this; simp [figsF]
      | succ j =>
        simp only [figsF]
        by_cases h : n = 0
        · simp [h]
        · simp only [h, if_false]
          have : n / b < n := Nat.div_lt_self (by omega) (by omega)
          rw [ih j (n / b) (by omega) (by omega)]
  intro k n h
  exact key k n n h (Nat.le_refl _)
theorem figs_zero (b : Nat) : figs b 0 = [] := rfl
theorem figs_pos {b n : Nat} (hb : 2 ≤ b) (hn : 0 < n) : figs b n = figs b (n / b) ++ [n % b] := by
  have : figs b n = figsF b n n := rfl
  rw [this]
  obtain ⟨k, rfl⟩ : ∃ k, n = k + 1 := ⟨n - 1, by omega⟩
  simp only [figsF]
  rw [if_neg (by omega)]
  have h : (k + 1) / b < k + 1 := Nat.div_lt_self (by omega) (by omega)
  rw [figsF_eq b hb k _ (by omega)]
theorem figs_lt {b : Nat} (hb : 2 ≤ b) : ∀ (n : Nat), ∀ f ∈ figs b n, f < b := by
  intro n
  induction n using Nat.strongRecOn with
  | ind n ih =>
    intro f hf
    by_cases h : n = 0
    · subst h; simp [figs_zero] at hf
    · rw [figs_pos hb (by omega)] at hf
      rcases List.mem_append.mp hf with h1 | h1
      · exact ih (n / b) (Nat.div_lt_self (by omega) (by omega)) f h1
      · simp at h1; subst h1; exact Nat.mod_lt _ (by omega)
theorem figs_snoc {b n f : Nat} (hb : 2 ≤ b) (hf : f < b) (h : 0 < n ∨ 0 < f) : figs b (n * b + f) = figs b n ++ [f] := by
  have hp : 0 < n * b + f := by
    rcases h with h | h
    · have : 0 < n * b := Nat.mul_pos h (by omega)
      omega
    · omega
  rw [figs_pos hb hp]
  have h1 : (n * b + f) / b = n := by
    rw [Nat.mul_comm, Nat.mul_add_div (by omega), Nat.div_eq_of_lt hf]; omega
  have h2 : (n * b + f) % b = f := by
    rw [Nat.mul_comm, Nat.mul_add_mod, Nat.mod_eq_of_lt hf]
  rw [h1, h2]
/-- the row's entry -/
def ent (g : List (List (Option Nat))) (s f : Nat) : Option Nat := ((g[s]?).getD [])[f]?.getD none
def nxt (g : List (List (Option Nat))) (s f : Nat) : Nat := (ent g s f).getD 0
def run (g : List (List (Option Nat))) (b n : Nat) : Nat := (figs b n).foldl (nxt g) 0
theorem run_zero (g : List (List (Option Nat))) (b : Nat) : run g b 0 = 0 := rfl
theorem run_snoc {g : List (List (Option Nat))} {b n f : Nat} (hb : 2 ≤ b) (hf : f < b) (h : 0 < n ∨ 0 < f) : run g b (n * b + f) = nxt g (run g b n) f := by
  unfold run
  rw [figs_snoc hb hf h, List.foldl_append]
  rfl
/-- rows of the right form: m states behind the beginning -/
structure Wf (b m : Nat) (g : List (List (Option Nat))) : Prop where
  len : g.length = m + 1
  row : ∀ (s : Nat) (r : List (Option Nat)), g[s]? = some r → r.length = b
  e00 : ent g 0 0 = none
  ent : ∀ s f, s ≤ m → f < b → (0 < s ∨ 0 < f) → ∃ t, ent g s f = some t ∧ 1 ≤ t ∧ t ≤ m
theorem Wf.nxt {b m : Nat} {g : List (List (Option Nat))} (w : Wf b m g) {s f : Nat} (hs : s ≤ m) (hf : f < b) (h : 0 < s ∨ 0 < f) : 1 ≤ nxt g s f ∧ nxt g s f ≤ m := by
  obtain ⟨t, e, h1, h2⟩ := w.ent s f hs hf h
  unfold Bz.nxt
  rw [e]
  exact ⟨h1, h2⟩
theorem Wf.ent_nxt {b m : Nat} {g : List (List (Option Nat))} (w : Wf b m g) {s f : Nat} (hs : s ≤ m) (hf : f < b) (h : 0 < s ∨ 0 < f) : Bz.ent g s f = some (Bz.nxt g s f) := by
  obtain ⟨t, e, h1, h2⟩ := w.ent s f hs hf h
  unfold Bz.nxt
  rw [e] <;> rfl
theorem split_num {b : Nat} (hb : 2 ≤ b) {n : Nat} (hn : 0 < n) : n = n / b * b + n % b ∧ n % b < b ∧ (0 < n / b ∨ 0 < n % b) ∧ n / b < n := by
  have h1 := Nat.div_add_mod n b
  have h2 := Nat.mod_lt n (show 0 < b by omega)
  refine ⟨by rw [Nat.mul_comm]; omega, h2, ?_, Nat.div_lt_self hn (by omega)⟩
  generalize n / b = q at *
  generalize n % b = r at *
  by_cases h : 0 < q
  · exact .inl h
  · right
    have h0 : q = 0 := by omega
    rw [h0] at h1
    omega
theorem Wf.run {b m : Nat} {g : List (List (Option Nat))} (w : Wf b m g) (hb : 2 ≤ b) : ∀ n, 0 < n → 1 ≤ run g b n ∧ run g b n ≤ m := by
  intro n
  induction n using Nat.strongRecOn with
  | ind n ih =>
    intro hn
    obtain ⟨e, h1, h2, h3⟩ := split_num hb hn
    rw [e, run_snoc hb h1 h2]
    have ihq := ih (n / b) h3
    generalize n / b = q at *
    generalize n % b = r at *
    by_cases h : 0 < q
    · obtain ⟨a, c⟩ := ihq h
      exact w.nxt c h1 (.inl (by omega))
    · have h0 : q = 0 := by omega
      rw [h0, run_zero]
      exact w.nxt (Nat.zero_le _) h1 (.inr (by omega))
/-- a machine that is numbered as numbers first meet its states, and tells F -/
structure Met (b m : Nat) (g : List (List (Option Nat))) : Prop where
  wf : Wf b m g
  met : ∀ n, 0 < n → ∀ t, 1 ≤ t → t < run g b n → ∃ k, 0 < k ∧ k < n ∧ run g b k = t
  reach : ∀ t, 1 ≤ t → t ≤ m → ∃ n, 0 < n ∧ run g b n = t
/-- words of figures behind a number -/
def ext (b n : Nat) (w : List Nat) : Nat := w.foldl (fun n f => n * b + f) n
/-- two states that nothing tells apart -/
def Alike {μ : Type} (b : Nat) (g : List (List (Option Nat))) (mk : Nat → μ) (s t : Nat) : Prop := ∀ w : List Nat, (∀ f ∈ w, f < b) → mk (w.foldl (nxt g) s) = mk (w.foldl (nxt g) t)
theorem ext_pos {b : Nat} (hb : 2 ≤ b) : ∀ (w : List Nat) (n : Nat), 0 < n → 0 < ext b n w := by
  intro w
  induction w with
  | nil => intro n h; exact h
  | cons f r ih =>
    intro n h
    show 0 < ext b (n * b + f) r
    refine ih _ ?_
    have : 0 < n * b := Nat.mul_pos h (by omega)
    omega
theorem run_ext {b : Nat} (hb : 2 ≤ b) (g : List (List (Option Nat))) : ∀ (w : List Nat) (n : Nat), 0 < n → (∀ f ∈ w, f < b) → run g b (ext b n w) = w.foldl (nxt g) (run g b n) := by
  intro w
  induction w with
  | nil => intro n h _; rfl
  | cons f r ih =>
    intro n h hw
    show run g b (ext b (n * b + f) r) = r.foldl (nxt g) (nxt g (run g b n) f)
    have hp : 0 < n * b + f := by
      have : 0 < n * b := Nat.mul_pos h (by omega)
      omega
    rw [ih _ hp (fun x hx => hw x (List.mem_cons_of_mem _ hx)), run_snoc hb (hw f (List.mem_cons_self)) (.inl h)]
/-- the least machine of F: canonical -/
structure Canon {μ : Type} (b m : Nat) (g : List (List (Option Nat))) (mk : Nat → μ) (F : Nat → μ) : Prop where
  met : Met b m g
  tells : ∀ n, 0 < n → mk (run g b n) = F n
  least : ∀ s t, 1 ≤ s → s ≤ m → 1 ≤ t → t ≤ m → Alike b g mk s t → s = t
theorem Canon.same_of_alike {μ : Type} {b m : Nat} {g : List (List (Option Nat))} {mk F : Nat → μ} (hb : 2 ≤ b) (c : Canon b m g mk F) {n k : Nat} (hn : 0 < n) (hk : 0 < k)
    (h : ∀ w : List Nat, (∀ f ∈ w, f < b) → F (ext b n w) = F (ext b k w)) : run g b n = run g b k := by
  obtain ⟨a1, a2⟩ := c.met.wf.run hb n hn
  obtain ⟨b1, b2⟩ := c.met.wf.run hb k hk
  refine c.least _ _ a1 a2 b1 b2 fun w hw => ?_
  rw [← run_ext hb g w n hn hw, ← run_ext hb g w k hk hw, c.tells _ (ext_pos hb w n hn), c.tells _ (ext_pos hb w k hk)]
  exact h w hw
theorem Canon.run_eq {μ : Type} {b m m' : Nat} {g g' : List (List (Option Nat))} {mk mk' F : Nat → μ} (hb : 2 ≤ b) (c : Canon b m g mk F) (c' : Canon b m' g' mk' F) : ∀ n, 0 < n → run g b n = run g' b n := by
  have alike : ∀ {m m' : Nat} {g g' : List (List (Option Nat))} {mk mk' : Nat → μ}, Canon b m g mk F → Canon b m' g' mk' F → ∀ n k, 0 < n → 0 < k → run g b n = run g b k → run g' b n = run g' b k := by
    intro m m' g g' mk mk' c c' n k hn hk e
    refine c'.same_of_alike hb hn hk fun w hw => ?_
    rw [← c.tells _ (ext_pos hb w n hn), ← c.tells _ (ext_pos hb w k hk), run_ext hb g w n hn hw, run_ext hb g w k hk hw, e]
  intro n
  induction n using Nat.strongRecOn with
  | ind n ih =>
    intro hn
    by_cases h1 : ∃ k, 0 < k ∧ k < n ∧ run g b k = run g b n
    · obtain ⟨k, hk, hkn, e⟩ := h1
      have e2 := alike c c' k n hk hn e
      rw [← e, ih k hkn hk, e2]
    · by_cases h2 : ∃ k, 0 < k ∧ k < n ∧ run g' b k = run g' b n
      · obtain ⟨k, hk, hkn, e⟩ := h2
        have e2 := alike c' c k n hk hn e
        rw [← e, ← ih k hkn hk, e2]
      · obtain ⟨a1, _⟩ := c.met.wf.run hb n hn
        obtain ⟨b1, _⟩ := c'.met.wf.run hb n hn
        rcases Nat.lt_trichotomy (run g b n) (run g' b n) with h | h | h
        · obtain ⟨k, hk, hkn, e⟩ := c'.met.met n hn _ a1 h
          exact absurd ⟨k, hk, hkn, by rw [ih k hkn hk]; exact e⟩ h1
        · exact h
        · obtain ⟨k, hk, hkn, e⟩ := c.met.met n hn _ b1 h
          exact absurd ⟨k, hk, hkn, by rw [← ih k hkn hk]; exact e⟩ h2
theorem list_ext {α : Type} {l l' : List α} (h : l.length = l'.length) (e : ∀ (i : Nat) (x y : α), l[i]? = some x → l'[i]? = some y → x = y) : l = l' := by
  apply List.ext_getElem? 
  intro i
  by_cases hi : i < l.length
  · have h1 : l[i]? = some l[i] := List.getElem?_eq_getElem hi
    have hi' : i < l'.length := by omega
    have h2 : l'[i]? = some l'[i] := List.getElem?_eq_getElem hi'
    rw [h1, h2, e i _ _ h1 h2]
  · rw [List.getElem?_eq_none_iff.mpr (by omega), List.getElem?_eq_none_iff.mpr (by omega)]
theorem ent_of {g : List (List (Option Nat))} {s f : Nat} {r : List (Option Nat)} {x : Option Nat} (h : g[s]? = some r) (h2 : r[f]? = some x) : ent g s f = x := by
  unfold ent
  rw [h]
  show (r[f]?).getD none = x
  rw [h2] <;> rfl
/-- two least machines of one F are the same -/
theorem Canon.uniq {μ : Type} {b m m' : Nat} {g g' : List (List (Option Nat))} {mk mk' F : Nat → μ} (hb : 2 ≤ b) (c : Canon b m g mk F) (c' : Canon b m' g' mk' F) : m = m' ∧ g = g' ∧ ∀ s, 1 ≤ s → s ≤ m → mk s = mk' s := by
  have R := c.run_eq hb c'
  have le : ∀ {m m' : Nat} {g g' : List (List (Option Nat))} {mk mk' : Nat → μ}, Canon b m g mk F → Canon b m' g' mk' F → (∀ n, 0 < n → run g b n = run g' b n) → m ≤ m' := by
    intro m m' g g' mk mk' c c' R
    by_cases h : m = 0
    · omega
    · obtain ⟨n, hn, e⟩ := c.met.reach m (by omega) (Nat.le_refl _)
      have := (c'.met.wf.run hb n hn).2
      rw [← R n hn, e] at this
      exact this
  have em : m = m' := Nat.le_antisymm (le c c' R) (le c' c fun n hn => (R n hn).symm)
  subst em
  have N : ∀ s f, s ≤ m → f < b → ent g s f = ent g' s f := by
    intro s f hs hf
    by_cases h : 0 < s ∨ 0 < f
    · rw [c.met.wf.ent_nxt hs hf h, c'.met.wf.ent_nxt hs hf h]
      by_cases h0 : s = 0
      · subst h0
        have hf0 : 0 < f := by omega
        have e1 := run_snoc (g := g) (n := 0) hb hf (.inr hf0)
        have e2 := run_snoc (g := g') (n := 0) hb hf (.inr hf0)
        rw [run_zero] at e1 e2
        rw [← e1, ← e2, R _ (by omega)]
      · obtain ⟨n, hn, e⟩ := c.met.reach s (by omega) hs
        have e1 := run_snoc (g := g) (n := n) hb hf (.inl hn)
        have e2 := run_snoc (g := g') (n := n) hb hf (.inl hn)
        rw [e] at e1
        rw [← R n hn, e] at e2
        rw [← e1, ← e2, R _ (by have : 0 < n * b := Nat.mul_pos hn (by omega)
                                omega)]
    · have h1 : s = 0 := by omega
      have h2 : f = 0 := by omega
      subst h1; subst h2
      rw [c.met.wf.e00, c'.met.wf.e00]
  refine ⟨rfl, list_ext (by rw [c.met.wf.len, c'.met.wf.len]) fun i x y hx hy => ?_, fun s h1 h2 => ?_⟩
  · have hi : i < g.length := (List.getElem?_eq_some_iff.mp hx).1
    rw [c.met.wf.len] at hi
    have lx := c.met.wf.row _ _ hx
    have ly := c'.met.wf.row _ _ hy
    refine list_ext (by omega) fun j u v hu hv => ?_
    have hj : j < x.length := (List.getElem?_eq_some_iff.mp hu).1
    have e1 := ent_of hx hu
    have e2 := ent_of hy hv
    rw [← e1, ← e2, N i j (by omega) (by omega)]
  · obtain ⟨n, hn, e⟩ := c.met.reach s h1 h2
    have t1 := c.tells n hn
    have t2 := c'.tells n hn
    rw [e] at t1
    rw [← R n hn, e] at t2
    rw [t1, t2]
end Bz
end
section
set_option maxHeartbeats 400000
set_option autoImplicit false
namespace Bz
/-! numbering as things first come; classes of states; the machine of the classes -/
theorem snoc_ind {α : Type} {P : List α → Prop} (h0 : P []) (h1 : ∀ l x, P l → P (l ++ [x])) (l : List α) : P l := by
  have key : ∀ r : List α, P r.reverse := by
    intro r
    induction r with
    | nil => exact h0
    | cons x r ih => rw [List.reverse_cons]; exact h1 _ _ ih
  have := key l.reverse
  rw [List.reverse_reverse] at this
  exact this
section
variable {α : Type} [DecidableEq α]
def ddS (acc : List α) (x : α) : List α := if x ∈ acc then acc else acc ++ [x]
/-- each thing once, as they first come -/
def dd (l : List α) : List α := l.foldl ddS []
theorem dd_snoc (l : List α) (x : α) : dd (l ++ [x]) = ddS (dd l) x := by
  unfold dd; rw [List.foldl_append]; rfl
theorem mem_dd {l : List α} {x : α} : x ∈ dd l ↔ x ∈ l := by
  induction l using snoc_ind generalizing x with
  | h0 => simp [dd]
  | h1 l y ih =>
    rw [dd_snoc]
    unfold ddS
    split
    · rename_i h
      rw [ih, List.mem_append, List.mem_singleton]
      refine ⟨.inl, fun h' => h'.elim id fun e => ?_⟩
      rw [e]
      exact ih.mp h
    · rw [List.mem_append, List.mem_append, ih]
theorem dd_nodup (l : List α) : (dd l).Nodup := by
  induction l using snoc_ind with
  | h0 => simp [dd]
  | h1 l y ih =>
    rw [dd_snoc]
    unfold ddS
    split
    · exact ih
    · rename_i h
      rw [List.nodup_append]
      refine ⟨ih, by simp, fun a ha b hb => ?_⟩
      rw [List.mem_singleton] at hb
      subst hb
      intro e
      subst e
      exact h ha
theorem dd_len (l : List α) : (dd l).length ≤ l.length := by
  induction l using snoc_ind with
  | h0 => simp [dd]
  | h1 l y ih =>
    rw [dd_snoc]
    unfold ddS
    split
    · rw [List.length_append]; omega
    · rw [List.length_append, List.length_append]; simp; omega
/-- the number of a thing -/
def ix (l : List α) (x : α) : Nat := (dd l).idxOf x
theorem ix_lt {l : List α} {x : α} (h : x ∈ l) : ix l x < (dd l).length := List.idxOf_lt_length_iff.mpr (mem_dd.mpr h)
theorem ix_inj {l : List α} {x y : α} (hx : x ∈ l) (hy : y ∈ l) (e : ix l x = ix l y) : x = y := by
  have a := List.getElem_idxOf (ix_lt hx)
  have b := List.getElem_idxOf (ix_lt hy)
  unfold ix at e
  rw [← a, ← b]
  congr 1
end
section
variable {α β : Type} [DecidableEq α] [DecidableEq β]
theorem dd_cnt (zs : List (α × β)) : (∀ p ∈ zs, ∀ q ∈ zs, p.2 = q.2 → p.1 = q.1) →
    (dd (zs.map (·.1))).length ≤ (dd (zs.map (·.2))).length ∧ ((dd (zs.map (·.1))).length = (dd (zs.map (·.2))).length → ∀ p ∈ zs, ∀ q ∈ zs, p.1 = q.1 → p.2 = q.2) := by
  induction zs using snoc_ind with
  | h0 => intro _; simp [dd]
  | h1 zs z ih =>
    intro H
    obtain ⟨x, y⟩ := z
    have IH := ih fun p hp q hq => H p (List.mem_append_left _ hp) q (List.mem_append_left _ hq)
    obtain ⟨L, EQ⟩ := IH
    rw [List.map_append, List.map_append]
    show (dd (zs.map (·.1) ++ [x])).length ≤ (dd (zs.map (·.2) ++ [y])).length ∧ ((dd (zs.map (·.1) ++ [x])).length = (dd (zs.map (·.2) ++ [y])).length → _)
    rw [dd_snoc, dd_snoc]
    unfold ddS
    by_cases hy : y ∈ dd (zs.map (·.2))
    · obtain ⟨p, hp, e⟩ := List.mem_map.mp (mem_dd.mp hy)
      have ex : p.1 = x := H p (List.mem_append_left _ hp) (x, y) (List.mem_append_right _ (by simp)) e
      have hx : x ∈ dd (zs.map (·.1)) := mem_dd.mpr (List.mem_map.mpr ⟨p, hp, ex⟩)
      rw [if_pos hy, if_pos hx]
      refine ⟨L, fun e' => ?_⟩
      have pe : p = (x, y) := Prod.ext ex e
      have hm : (x, y) ∈ zs := by rw [← pe]; exact hp
      have all : ∀ p ∈ zs ++ [(x, y)], p ∈ zs := fun p hp => by
        rcases List.mem_append.mp hp with h | h
        · exact h
        · rw [List.mem_singleton] at h; rw [h]; exact hm
      exact fun p hp q hq => EQ e' p (all p hp) q (all q hq)
    · rw [if_neg hy]
      by_cases hx : x ∈ dd (zs.map (·.1))
      · rw [if_pos hx, List.length_append, List.length_singleton]
        exact ⟨by omega, fun e => by omega⟩
      · rw [if_neg hx, List.length_append, List.length_append, List.length_singleton, List.length_singleton]
        refine ⟨by omega, fun e p hp q hq pq => ?_⟩
        have e' : (dd (zs.map (·.1))).length = (dd (zs.map (·.2))).length := by omega
        have nx : ∀ p ∈ zs, p.1 ≠ x := fun p hp e => hx (mem_dd.mpr (List.mem_map.mpr ⟨p, hp, e⟩))
        rcases List.mem_append.mp hp with h | h <;> rcases List.mem_append.mp hq with h' | h'
        · exact EQ e' p h q h' pq
        · rw [List.mem_singleton] at h'; subst h'; exact absurd pq (nx p h)
        · rw [List.mem_singleton] at h; subst h; exact absurd pq.symm (nx q h')
        · rw [List.mem_singleton] at h h'; rw [h, h']
end
/-- rows whose states are numbered as a scan of the rows first meets them -/
structure Scan (b m : Nat) (g : List (List (Option Nat))) : Prop where
  wf : Wf b m g
  num : ∀ j, 1 ≤ j → j < (m + 1) * b → ∀ t, 1 ≤ t → t < nxt g (j / b) (j % b) → ∃ i, 1 ≤ i ∧ i < j ∧ nxt g (i / b) (i % b) = t
  row : ∀ s, 1 ≤ s → s ≤ m → ∃ i, 1 ≤ i ∧ i < s * b ∧ nxt g (i / b) (i % b) = s
theorem at_div {b s f : Nat} (hf : f < b) : (s * b + f) / b = s ∧ (s * b + f) % b = f := by
  refine ⟨?_, ?_⟩
  · rw [Nat.mul_comm, Nat.mul_add_div (by omega), Nat.div_eq_of_lt hf]; omega
  · rw [Nat.mul_comm, Nat.mul_add_mod, Nat.mod_eq_of_lt hf]
theorem Scan.met {b m : Nat} {g : List (List (Option Nat))} (hb : 2 ≤ b) (c : Scan b m g) : Met b m g := by
  have bp : 0 < b := by omega
  refine ⟨c.wf, ?_, ?_⟩
  · intro n
    induction n using Nat.strongRecOn with
    | ind n ih =>
      intro hn t ht htn
      obtain ⟨e, h1, h2, h3⟩ := split_num hb hn
      have ihq := ih (n / b) h3
      have R := c.wf.run hb
      generalize hq : n / b = q at *
      generalize hf : n % b = f at *
      have er : run g b n = nxt g (run g b q) f := by rw [e]; exact run_snoc hb h1 h2
      rw [er] at htn
      have hs : run g b q ≤ m ∧ (0 < q → 1 ≤ run g b q) := by
        by_cases h : 0 < q
        · exact ⟨(R q h).2, fun _ => (R q h).1⟩
        · have : q = 0 := by omega
          subst this
          exact ⟨by rw [run_zero]; omega, fun h => by omega⟩
      obtain ⟨hs1, hs2⟩ := hs
      obtain ⟨d1, d2⟩ := at_div (s := run g b q) h1
      have hj : run g b q * b + f < (m + 1) * b := by
        have : run g b q * b ≤ m * b := Nat.mul_le_mul_right _ hs1
        rw [Nat.succ_mul]; omega
      have hj1 : 1 ≤ run g b q * b + f := by
        by_cases h : 0 < q
        · have : 1 * b ≤ run g b q * b := Nat.mul_le_mul_right _ (hs2 h)
          omega
        · omega
      obtain ⟨i, i1, i2, i3⟩ := c.num _ hj1 hj t ht (by rw [d1, d2]; exact htn)
      obtain ⟨e', g1, g2, _⟩ := split_num hb (show 0 < i by omega)
      generalize i / b = s at *
      generalize i % b = k at *
      have sle : s ≤ run g b q := by
        apply Nat.le_of_lt_succ
        apply Nat.lt_of_mul_lt_mul_right (a := b)
        rw [Nat.succ_mul]; omega
      by_cases hsq : s = run g b q
      · refine ⟨q * b + k, ?_, ?_, ?_⟩
        · by_cases h : 0 < q
          · have : 0 < q * b := Nat.mul_pos h bp
            omega
          · have : q = 0 := by omega
            subst this
            rw [run_zero] at hsq
            omega
        · rw [e]
          rw [hsq] at e'
          omega
        · rw [run_snoc hb g1 ?_, ← hsq]
          · exact i3
          · by_cases h : 0 < q
            · exact .inl h
            · have : q = 0 := by omega
              subst this
              rw [run_zero] at hsq
              omega
      · have hq0 : 0 < q := by
          by_cases h : 0 < q
          · exact h
          · have : q = 0 := by omega
            subst this
            rw [run_zero] at sle hsq
            omega
        by_cases hs0 : s = 0
        · subst hs0
          refine ⟨k, by omega, ?_, ?_⟩
          · rw [e]
            have : 1 * b ≤ q * b := Nat.mul_le_mul_right _ hq0
            omega
          · have z := run_snoc (g := g) (n := 0) hb g1 (.inr (by omega))
            rw [run_zero, Nat.zero_mul, Nat.zero_add] at z
            rw [z, i3]
        · obtain ⟨k', k1, k2, k3⟩ := ihq hq0 s (by omega) (by omega)
          refine ⟨k' * b + k, ?_, ?_, ?_⟩
          · have : 0 < k' * b := Nat.mul_pos k1 bp
            omega
          · rw [e]
            have : (k' + 1) * b ≤ q * b := Nat.mul_le_mul_right _ k2
            rw [Nat.succ_mul] at this
            omega
          · rw [run_snoc hb g1 (.inl k1), k3, i3]
  · intro t
    induction t using Nat.strongRecOn with
    | ind t ih =>
      intro h1 h2
      obtain ⟨i, i1, i2, i3⟩ := c.row t h1 h2
      obtain ⟨e', g1, g2, _⟩ := split_num hb (show 0 < i by omega)
      have : i / b < t := (Nat.div_lt_iff_lt_mul bp).mpr i2
      have ih' := ih (i / b) this
      generalize i / b = s at *
      generalize i % b = k at *
      by_cases hs0 : s = 0
      · subst hs0
        refine ⟨k, by omega, ?_⟩
        have z := run_snoc (g := g) (n := 0) hb g1 (.inr (by omega))
        rw [run_zero, Nat.zero_mul, Nat.zero_add] at z
        rw [z, i3]
      · obtain ⟨n, n1, n2⟩ := ih' (by omega) (by omega)
        refine ⟨n * b + k, ?_, ?_⟩
        · have : 0 < n * b := Nat.mul_pos n1 bp
          omega
        · rw [run_snoc hb g1 (.inl n1), n2, i3]
/-- a machine of classes: q the class of a state, reps the first state of a class -/
structure Quot {μ : Type} (b m : Nat) (g : List (List (Option Nat))) (mk : Nat → μ) (m' : Nat) (g' : List (List (Option Nat))) (reps q : Nat → Nat) : Prop where
  r0 : reps 0 = 0
  rep : ∀ j, 1 ≤ j → j ≤ m' → 1 ≤ reps j ∧ reps j ≤ m ∧ q (reps j) = j
  mono : ∀ j k, 1 ≤ j → j < k → k ≤ m' → reps j < reps k
  cls : ∀ s, 1 ≤ s → s ≤ m → 1 ≤ q s ∧ q s ≤ m' ∧ reps (q s) ≤ s
  alike : ∀ s t, 1 ≤ s → s ≤ m → 1 ≤ t → t ≤ m → (q s = q t ↔ Alike b g mk s t)
  rows : g' = (List.range (m' + 1)).map fun j => ((g[reps j]?).getD []).map (Option.map q)
section
variable {μ : Type} {b m m' : Nat} {g g' : List (List (Option Nat))} {mk : Nat → μ} {reps q : Nat → Nat}
theorem Quot.row_at (c : Quot b m g mk m' g' reps q) {j : Nat} (h : j ≤ m') : g'[j]? = some (((g[reps j]?).getD []).map (Option.map q)) := by
  rw [c.rows, List.getElem?_map, List.getElem?_range (by omega)] <;> rfl
theorem Quot.rle (c : Quot b m g mk m' g' reps q) {j : Nat} (h : j ≤ m') : reps j ≤ m := by
  by_cases h0 : j = 0
  · subst h0; rw [c.r0]; omega
  · exact (c.rep j (by omega) h).2.1
theorem Quot.ent_at (w : Wf b m g) (c : Quot b m g mk m' g' reps q) {j f : Nat} (h : j ≤ m') : ent g' j f = (ent g (reps j) f).map q := by
  unfold ent
  rw [c.row_at h]
  show ((List.map (Option.map q) ((g[reps j]?).getD []))[f]?).getD none = _
  rw [List.getElem?_map]
  cases ((g[reps j]?).getD [])[f]? with
  | none => rfl
  | some x => cases x <;> rfl
theorem Quot.wf (w : Wf b m g) (c : Quot b m g mk m' g' reps q) : Wf b m' g' := by
  refine ⟨by rw [c.rows]; simp, fun s r h => ?_, ?_, fun s f hs hf h => ?_⟩
  · have hs : s < g'.length := (List.getElem?_eq_some_iff.mp h).1
    rw [c.rows, List.length_map, List.length_range] at hs
    rw [c.row_at (by omega)] at h
    cases h
    have hr : reps s < g.length := by rw [w.len]; have := c.rle (j := s) (by omega); omega
    rw [List.length_map, List.getElem?_eq_getElem hr]
    exact w.row (reps s) _ (List.getElem?_eq_getElem hr)
  · rw [c.ent_at w (Nat.zero_le _), c.r0, w.e00] <;> rfl
  · rw [c.ent_at w hs]
    have hp : 0 < reps s ∨ 0 < f := by
      rcases h with h | h
      · exact .inl (c.rep s h hs).1
      · exact .inr h
    obtain ⟨t, e, h1, h2⟩ := w.ent (reps s) f (c.rle hs) hf hp
    rw [e]
    exact ⟨q t, rfl, (c.cls t h1 h2).1, (c.cls t h1 h2).2.1⟩
theorem Quot.nxt_rep (w : Wf b m g) (c : Quot b m g mk m' g' reps q) {j f : Nat} (h : j ≤ m') (hf : f < b) (hp : 0 < j ∨ 0 < f) : nxt g' j f = q (nxt g (reps j) f) := by
  have hp' : 0 < reps j ∨ 0 < f := by
    rcases hp with z | z
    · exact .inl (c.rep j z h).1
    · exact .inr z
  obtain ⟨t, e, h1, h2⟩ := w.ent (reps j) f (c.rle h) hf hp'
  unfold nxt
  rw [c.ent_at w h, e] <;> rfl
theorem Alike.step {s t f : Nat} (h : Alike b g mk s t) (hf : f < b) : Alike b g mk (nxt g s f) (nxt g t f) := fun w hw =>
  h (f :: w) fun x hx => by
    rcases List.mem_cons.mp hx with e | e
    · rw [e]; exact hf
    · exact hw x e
theorem Quot.nxt_q (w : Wf b m g) (c : Quot b m g mk m' g' reps q) {s f : Nat} (h1 : 1 ≤ s) (h2 : s ≤ m) (hf : f < b) : nxt g' (q s) f = q (nxt g s f) := by
  obtain ⟨a1, a2, a3⟩ := c.cls s h1 h2
  obtain ⟨b1, b2, b3⟩ := c.rep (q s) a1 a2
  rw [c.nxt_rep w a2 hf (.inl a1)]
  have A := ((c.alike _ _ b1 b2 h1 h2).mp b3).step hf
  obtain ⟨n1, n2⟩ := w.nxt b2 hf (.inl b1)
  obtain ⟨n3, n4⟩ := w.nxt h2 hf (.inl h1)
  exact (c.alike _ _ n1 n2 n3 n4).mpr A
theorem Quot.fold_q (w : Wf b m g) (c : Quot b m g mk m' g' reps q) : ∀ (l : List Nat) (s : Nat), 1 ≤ s → s ≤ m → (∀ f ∈ l, f < b) → l.foldl (nxt g') (q s) = q (l.foldl (nxt g) s) ∧ 1 ≤ l.foldl (nxt g) s ∧ l.foldl (nxt g) s ≤ m := by
  intro l
  induction l with
  | nil => intro s h1 h2 _; exact ⟨rfl, h1, h2⟩
  | cons f r ih =>
    intro s h1 h2 hw
    show r.foldl (nxt g') (nxt g' (q s) f) = q (r.foldl (nxt g) (nxt g s f)) ∧ _
    have hf := hw f List.mem_cons_self
    rw [c.nxt_q w h1 h2 hf]
    obtain ⟨n1, n2⟩ := w.nxt h2 hf (.inl h1)
    exact ih _ n1 n2 fun x hx => hw x (List.mem_cons_of_mem _ hx)
theorem Quot.run_q (hb : 2 ≤ b) (w : Wf b m g) (c : Quot b m g mk m' g' reps q) : ∀ n, 0 < n → run g' b n = q (run g b n) := by
  intro n
  induction n using Nat.strongRecOn with
  | ind n ih =>
    intro hn
    obtain ⟨e, h1, h2, h3⟩ := split_num hb hn
    have ihq := ih (n / b) h3
    have R := w.run hb (n / b)
    generalize n / b = k at *
    generalize n % b = f at *
    rw [e, run_snoc hb h1 h2, run_snoc hb h1 h2]
    by_cases h : 0 < k
    · rw [ihq h]
      exact c.nxt_q w (R h).1 (R h).2 h1
    · have h0 : k = 0 := by omega
      rw [h0, run_zero, run_zero, c.nxt_rep w (Nat.zero_le _) h1 (.inr (by omega)), c.r0]
theorem Quot.canon {F : Nat → μ} (hb : 2 ≤ b) (M : Met b m g) (c : Quot b m g mk m' g' reps q) (tells : ∀ n, 0 < n → mk (run g b n) = F n) : Canon b m' g' (fun j => mk (reps j)) F := by
  have w := M.wf
  have mkq : ∀ s, 1 ≤ s → s ≤ m → mk (reps (q s)) = mk s := fun s h1 h2 => by
    obtain ⟨a1, a2, _⟩ := c.cls s h1 h2
    obtain ⟨b1, b2, b3⟩ := c.rep (q s) a1 a2
    exact (c.alike _ _ b1 b2 h1 h2).mp b3 [] (by simp)
  refine ⟨⟨c.wf w, fun n hn t ht htn => ?_, fun t h1 h2 => ?_⟩, fun n hn => ?_, fun s t s1 s2 t1 t2 A => ?_⟩
  · rw [c.run_q hb w n hn] at htn
    obtain ⟨r1, r2⟩ := w.run hb n hn
    obtain ⟨a1, a2, a3⟩ := c.cls _ r1 r2
    have lt := c.mono t _ ht htn a2
    obtain ⟨b1, b2, b3⟩ := c.rep t ht (by omega)
    obtain ⟨k, k1, k2, k3⟩ := M.met n hn (reps t) b1 (by omega)
    exact ⟨k, k1, k2, by rw [c.run_q hb w k k1, k3, b3]⟩
  · obtain ⟨b1, b2, b3⟩ := c.rep t h1 h2
    obtain ⟨n, n1, n2⟩ := M.reach _ b1 b2
    exact ⟨n, n1, by rw [c.run_q hb w n n1, n2, b3]⟩
  · obtain ⟨r1, r2⟩ := w.run hb n hn
    show mk (reps (run g' b n)) = F n
    rw [c.run_q hb w n hn, mkq _ r1 r2, tells n hn]
  · obtain ⟨b1, b2, b3⟩ := c.rep s s1 s2
    obtain ⟨d1, d2, d3⟩ := c.rep t t1 t2
    have : Alike b g mk (reps s) (reps t) := fun l hl => by
      have A' := A l hl
      obtain ⟨e1, u1, u2⟩ := c.fold_q w l (reps s) b1 b2 hl
      obtain ⟨e2, v1, v2⟩ := c.fold_q w l (reps t) d1 d2 hl
      rw [b3] at e1
      rw [d3] at e2
      have A2 : mk (reps (l.foldl (nxt g') s)) = mk (reps (l.foldl (nxt g') t)) := A'
      rw [e1, e2, mkq _ u1 u2, mkq _ v1 v2] at A2
      exact A2
    have e := (c.alike _ _ b1 b2 d1 d2).mpr this
    rw [b3, d3] at e
    exact e
end
/-- what the classes at the end are: no two states of one class are told apart by one figure more, and what is never told apart is one class -/
theorem alike_of_stable {μ : Type} {b m : Nat} {g : List (List (Option Nat))} {mk : Nat → μ} (w : Wf b m g) {cl : Nat → Nat} (h0 : ∀ s t, 1 ≤ s → s ≤ m → 1 ≤ t → t ≤ m → cl s = cl t → mk s = mk t)
    (h1 : ∀ s t f, 1 ≤ s → s ≤ m → 1 ≤ t → t ≤ m → f < b → cl s = cl t → cl (nxt g s f) = cl (nxt g t f)) : ∀ (l : List Nat) s t, 1 ≤ s → s ≤ m → 1 ≤ t → t ≤ m → cl s = cl t → (∀ f ∈ l, f < b) → mk (l.foldl (nxt g) s) = mk (l.foldl (nxt g) t) := by
  intro l
  induction l with
  | nil => intro s t a b c d e _; exact h0 s t a b c d e
  | cons f r ih =>
    intro s t s1 s2 t1 t2 e hw
    have hf := hw f List.mem_cons_self
    obtain ⟨n1, n2⟩ := w.nxt s2 hf (.inl s1)
    obtain ⟨n3, n4⟩ := w.nxt t2 hf (.inl t1)
    exact ih _ _ n1 n2 n3 n4 (h1 s t f s1 s2 t1 t2 hf e) fun x hx => hw x (List.mem_cons_of_mem _ hx)
end Bz
end
section
set_option maxHeartbeats 400000
set_option autoImplicit false
namespace Bz
/-! exploring: the states as they are met, row by row -/
theorem nodup_le {α : Type} : ∀ {l u : List α}, l.Nodup → (∀ x ∈ l, x ∈ u) → l.length ≤ u.length := by
  intro l
  induction l with
  | nil => intro u _ _; exact Nat.zero_le _
  | cons a l ih =>
    intro u hn hs
    obtain ⟨u1, u2, e⟩ := List.append_of_mem (hs a List.mem_cons_self)
    have hn' := List.nodup_cons.mp hn
    have h2 : l.length ≤ (u1 ++ u2).length := ih hn'.2 fun x hx => by
      have h3 := hs x (List.mem_cons_of_mem _ hx)
      rw [e] at h3
      rcases List.mem_append.mp h3 with h4 | h4
      · exact List.mem_append_left _ h4
      · rcases List.mem_cons.mp h4 with h5 | h5
        · rw [h5] at hx; exact absurd hx hn'.1
        · exact List.mem_append_right _ h5
    rw [e]
    simp only [List.length_append, List.length_cons] at h2 ⊢
    omega
section
variable {S : Type} [DecidableEq S]
theorem ddS_pre (acc : List S) (x : S) : acc <+: ddS acc x := by
  unfold ddS; split
  · exact List.prefix_refl _
  · exact List.prefix_append _ _
theorem foldS_pre (l : List S) : ∀ acc : List S, acc <+: l.foldl ddS acc := by
  induction l with
  | nil => intro acc; exact List.prefix_refl _
  | cons x l ih => intro acc; exact List.IsPrefix.trans (ddS_pre acc x) (ih _)
theorem dd_append (l r : List S) : dd (l ++ r) = r.foldl ddS (dd l) := by
  unfold dd; rw [List.foldl_append]
theorem dd_pre (l r : List S) : dd l <+: dd (l ++ r) := by rw [dd_append]; exact foldS_pre _ _
theorem ix_get {l : List S} {x : S} (h : x ∈ l) : (dd l)[ix l x]? = some x := by
  have h1 := ix_lt h
  rw [List.getElem?_eq_getElem h1, Option.some.injEq]
  exact List.getElem_idxOf h1
theorem ix_of_get {l : List S} {x : S} {t : Nat} (h : (dd l)[t]? = some x) : ix l x = t := by
  have hx : x ∈ l := mem_dd.mp (List.mem_of_getElem? h)
  have h1 := ix_get hx
  obtain ⟨a1, a2⟩ := List.getElem?_eq_some_iff.mp h
  obtain ⟨b1, b2⟩ := List.getElem?_eq_some_iff.mp h1
  exact (List.getElem_inj (dd_nodup l)).mp (b2.trans a2.symm)
theorem ix_append {l : List S} {x : S} (h : x ∈ l) (r : List S) : ix (l ++ r) x = ix l x := by
  apply ix_of_get
  have h1 := ix_get h
  obtain ⟨z, hz⟩ := dd_pre l r
  rw [← hz, List.getElem?_append_left (ix_lt h)]
  exact h1
/-- what is met earlier has a lesser number, and every lesser number was met earlier -/
theorem ix_met (l : List S) : ∀ (j : Nat) (x : S), l[j]? = some x → ∀ t, t < ix l x → ∃ (i : Nat) (y : S), i < j ∧ l[i]? = some y ∧ ix l y = t := by
  induction l using snoc_ind with
  | h0 => intro j x h; simp at h
  | h1 l z ih =>
    intro j x h t ht
    by_cases hj : j < l.length
    · rw [List.getElem?_append_left hj] at h
      have hx := List.mem_of_getElem? h
      rw [ix_append hx] at ht
      obtain ⟨i, y, h1, h2, h3⟩ := ih j x h t ht
      exact ⟨i, y, h1, by rw [List.getElem?_append_left (by omega)]; exact h2, by rw [ix_append (List.mem_of_getElem? h2)]; exact h3⟩
    · have hj2 : j = l.length := by
        have := (List.getElem?_eq_some_iff.mp h).1
        rw [List.length_append, List.length_singleton] at this
        omega
      have hx : x = z := by
        rw [hj2, List.getElem?_append_right (Nat.le_refl _), Nat.sub_self] at h
        simpa using h.symm
      subst hx
      have lt : t < (dd l).length := by
        by_cases hm : x ∈ l
        · rw [ix_append hm] at ht
          exact Nat.lt_trans ht (ix_lt hm)
        · have e : dd (l ++ [x]) = dd l ++ [x] := by
            rw [dd_snoc]; unfold ddS; rw [if_neg (fun q => hm (mem_dd.mp q))]
          have h1 : ix (l ++ [x]) x < (dd (l ++ [x])).length := ix_lt (by simp)
          rw [e, List.length_append, List.length_singleton] at h1
          omega
      obtain ⟨y, hy⟩ : ∃ y, (dd l)[t]? = some y := ⟨_, List.getElem?_eq_getElem lt⟩
      have hy2 : y ∈ l := mem_dd.mp (List.mem_of_getElem? hy)
      obtain ⟨i, hi⟩ := List.mem_iff_getElem?.mp hy2
      have hil := (List.getElem?_eq_some_iff.mp hi).1
      refine ⟨i, y, by omega, by rw [List.getElem?_append_left hil]; exact hi, ?_⟩
      rw [ix_append hy2]
      exact ix_of_get hy
/-! the exploring itself -/
/-- the state of the number t in the order O; none at the beginning -/
def prevO (O : List S) (t : Nat) : Option S := if t = 0 then none else O[t - 1]?
/-- the figures at which the row s looks -/
def figRow (b s : Nat) : List Nat := if s = 0 then (List.range b).drop 1 else List.range b
variable (b : Nat) (stp : Option S → Nat → S)
def valsRow (s : Nat) (p : Option S) : List S := (figRow b s).map (stp p)
/-- all that was met ahead of the row s -/
def seen : Nat → List S
  | 0 => []
  | s + 1 => seen s ++ valsRow b stp s (prevO (dd (seen s)) s)
/-- the row s, by the numbers of a list -/
def rowOf (O : List S) (Q : List S) (s : Nat) : List (Option Nat) := (List.range b).map fun f => if s = 0 ∧ f = 0 then none else some (ix Q (stp (prevO O s) f) + 1)
theorem figRow_len (hb : 2 ≤ b) (s : Nat) : (figRow b s).length = if s = 0 then b - 1 else b := by
  unfold figRow; split <;> simp
theorem seen_len (hb : 2 ≤ b) : ∀ s, (seen b stp s).length = if s = 0 then 0 else s * b - 1 := by
  intro s
  induction s with
  | zero => rfl
  | succ s ih =>
    show (seen b stp s ++ valsRow b stp s _).length = _
    rw [List.length_append, ih]
    unfold valsRow
    rw [List.length_map, figRow_len b hb, if_neg (Nat.succ_ne_zero s)]
    by_cases h : s = 0
    · subst h; simp
    · rw [if_neg h, if_neg h, Nat.succ_mul]
      have : 1 * b ≤ s * b := Nat.mul_le_mul_right _ (by omega)
      omega
theorem seen_pre {s s' : Nat} (h : s ≤ s') : ∃ r, seen b stp s' = seen b stp s ++ r := by
  induction s' with
  | zero => have : s = 0 := by omega
            subst this; exact ⟨[], by simp⟩
  | succ k ih =>
    by_cases e : s = k + 1
    · subst e; exact ⟨[], by simp⟩
    · obtain ⟨r, hr⟩ := ih (by omega)
      refine ⟨r ++ valsRow b stp k (prevO (dd (seen b stp k)) k), ?_⟩
      show seen b stp k ++ _ = _
      rw [hr, List.append_assoc]
theorem figRow_get (hb : 2 ≤ b) {s j : Nat} (h1 : 1 ≤ j) (h2 : j / b = s) : (figRow b s)[j % b - (if s = 0 then 1 else 0)]? = some (j % b) := by
  have hm := Nat.mod_lt j (show 0 < b by omega)
  unfold figRow
  by_cases h : s = 0
  · rw [if_pos h, if_pos h, List.getElem?_drop]
    have : j % b = j := by
      have := Nat.div_add_mod j b
      rw [h2, h] at this
      omega
    rw [List.getElem?_range (by omega)]
    congr 1; omega
  · rw [if_neg h, if_neg h, List.getElem?_range (by omega)]
    congr 1
theorem seen_get (hb : 2 ≤ b) {s : Nat} : ∀ {j : Nat}, 1 ≤ j → j < s * b → (seen b stp s)[j - 1]? = some (stp (prevO (dd (seen b stp (j / b))) (j / b)) (j % b)) := by
  induction s with
  | zero => intro j h1 h2; omega
  | succ s ih =>
    intro j h1 h2
    show (seen b stp s ++ valsRow b stp s _)[j - 1]? = _
    have hl := seen_len b stp hb s
    by_cases h : j < s * b
    · have hs : s ≠ 0 := by intro e; subst e; omega
      rw [if_neg hs] at hl
      rw [List.getElem?_append_left (by omega)]
      exact ih h1 h
    · have hd : j / b = s := by
        rw [Nat.div_eq_iff (by omega)]
        rw [Nat.succ_mul] at h2
        omega
      have hdm := Nat.div_add_mod j b
      rw [hd, Nat.mul_comm] at hdm
      have hg := figRow_get b hb h1 hd
      rw [List.getElem?_append_right (by
        rw [hl]; split <;> omega)]
      have e : j - 1 - (seen b stp s).length = j % b - (if s = 0 then 1 else 0) := by
        rw [hl]
        by_cases h0 : s = 0
        · subst h0; simp; omega
        · rw [if_neg h0, if_neg h0]
          have : 1 * b ≤ s * b := Nat.mul_le_mul_right _ (by omega)
          omega
      rw [e]
      unfold valsRow
      rw [List.getElem?_map, hg, hd] <;> rfl
theorem prevO_pre {O O' : List S} (h : O <+: O') {t : Nat} (ht : t ≤ O.length) : prevO O' t = prevO O t := by
  unfold prevO
  by_cases h0 : t = 0
  · rw [if_pos h0, if_pos h0]
  · rw [if_neg h0, if_neg h0]
    obtain ⟨r, hr⟩ := h
    rw [← hr, List.getElem?_append_left (by omega)]
theorem dd_seen_pre {s s' : Nat} (h : s ≤ s') : dd (seen b stp s) <+: dd (seen b stp s') := by
  obtain ⟨r, hr⟩ := seen_pre b stp h
  rw [hr]
  exact dd_pre _ _
/-- rows 0 .. s - 1 as they stand with all that is met by now -/
def gridOf (s : Nat) (Q : List S) : List (List (Option Nat)) := (List.range s).map fun k => rowOf b stp (dd Q) Q k
/-- the exploring has come to its end: m states, the rows of all of them looked at -/
structure Done (m : Nat) : Prop where
  len : (dd (seen b stp (m + 1))).length = m
  at_ : ∀ s, s ≤ m → s ≤ (dd (seen b stp s)).length
theorem gridOf_ent (hb : 2 ≤ b) {s : Nat} {Q : List S} {t f : Nat} (ht : t < s) (hf : f < b) : ent (gridOf b stp s Q) t f = if t = 0 ∧ f = 0 then none else some (ix Q (stp (prevO (dd Q) t) f) + 1) := by
  unfold ent gridOf
  rw [List.getElem?_map, List.getElem?_range ht]
  show ((rowOf b stp (dd Q) Q t)[f]?).getD none = _
  unfold rowOf
  rw [List.getElem?_map, List.getElem?_range hf]
  rfl
theorem done_scan (hb : 2 ≤ b) {m : Nat} (d : Done b stp m) : Scan b m (gridOf b stp (m + 1) (seen b stp (m + 1))) ∧
    ∀ t f, t ≤ m → f < b → (0 < t ∨ 0 < f) → (dd (seen b stp (m + 1)))[nxt (gridOf b stp (m + 1) (seen b stp (m + 1))) t f - 1]? = some (stp (prevO (dd (seen b stp (m + 1))) t) f) := by
  generalize hQ : seen b stp (m + 1) = Q at *
  have dl : (dd Q).length = m := by rw [← hQ]; exact d.len
  have hat : ∀ {j : Nat}, 1 ≤ j → j < (m + 1) * b → Q[j - 1]? = some (stp (prevO (dd Q) (j / b)) (j % b)) := fun {j} h1 h2 => by
    have g := seen_get b stp hb h1 h2
    have hjm : j / b ≤ m := by
      have : j / b < m + 1 := (Nat.div_lt_iff_lt_mul (by omega)).mpr h2
      omega
    have e : prevO (dd Q) (j / b) = prevO (dd (seen b stp (j / b))) (j / b) := by
      apply prevO_pre
      · rw [← hQ]; exact dd_seen_pre b stp (by omega)
      · exact d.at_ _ hjm
    rw [e, ← hQ]
    exact g
  have pos : ∀ {t f : Nat}, t ≤ m → f < b → (0 < t ∨ 0 < f) → 1 ≤ t * b + f ∧ t * b + f < (m + 1) * b := fun {t f} h1 h2 h3 => by
    have a : t * b ≤ m * b := Nat.mul_le_mul_right _ h1
    rw [Nat.succ_mul]
    refine ⟨?_, by omega⟩
    by_cases h : 0 < t
    · have : 1 * b ≤ t * b := Nat.mul_le_mul_right _ h
      omega
    · omega
  have mem : ∀ {t f : Nat}, t ≤ m → f < b → (0 < t ∨ 0 < f) → stp (prevO (dd Q) t) f ∈ Q := fun {t f} h1 h2 h3 => by
    obtain ⟨a, c⟩ := pos h1 h2 h3
    have g := hat a c
    obtain ⟨d1, d2⟩ := at_div (s := t) h2
    rw [d1, d2] at g
    exact List.mem_of_getElem? g
  have en : ∀ {t f : Nat}, t ≤ m → f < b → (0 < t ∨ 0 < f) → ent (gridOf b stp (m + 1) Q) t f = some (ix Q (stp (prevO (dd Q) t) f) + 1) := fun {t f} h1 h2 h3 => by
    rw [gridOf_ent b stp hb (by omega) h2, if_neg (by omega)]
  have nx : ∀ {t f : Nat}, t ≤ m → f < b → (0 < t ∨ 0 < f) → nxt (gridOf b stp (m + 1) Q) t f = ix Q (stp (prevO (dd Q) t) f) + 1 := fun {t f} h1 h2 h3 => by
    unfold nxt; rw [en h1 h2 h3] <;> rfl
  have dm : ∀ {j : Nat}, 1 ≤ j → j < (m + 1) * b → j / b ≤ m ∧ j % b < b ∧ (0 < j / b ∨ 0 < j % b) := fun {j} h1 h2 => by
    have : j / b < m + 1 := (Nat.div_lt_iff_lt_mul (by omega)).mpr h2
    obtain ⟨_, b1, b2, _⟩ := split_num hb (show 0 < j by omega)
    exact ⟨by omega, b1, b2⟩
  refine ⟨⟨⟨?_, ?_, ?_, ?_⟩, ?_, ?_⟩, ?_⟩
  · unfold gridOf; simp
  · intro s r h
    unfold gridOf at h
    rw [List.getElem?_map] at h
    cases e : (List.range (m + 1))[s]? with
    | none => rw [e] at h; cases h
    | some k =>
      rw [e] at h
      have h := (Option.some.inj h).symm
      rw [h]
      unfold rowOf
      simp
  · rw [gridOf_ent b stp hb (by omega) (by omega), if_pos ⟨rfl, rfl⟩]
  · intro s f h1 h2 h3
    refine ⟨_, en h1 h2 h3, by omega, ?_⟩
    have := ix_lt (mem h1 h2 h3)
    omega
  · intro j h1 h2 t ht htn
    obtain ⟨a1, a2, a3⟩ := dm h1 h2
    rw [nx a1 a2 a3] at htn
    obtain ⟨i, y, e1, e2, e3⟩ := ix_met Q (j - 1) _ (hat h1 h2) (t - 1) (by omega)
    have hi2 : i + 1 < (m + 1) * b := by omega
    obtain ⟨c1, c2, c3⟩ := dm (j := i + 1) (by omega) hi2
    refine ⟨i + 1, by omega, by omega, ?_⟩
    have g := hat (j := i + 1) (by omega) hi2
    rw [Nat.add_sub_cancel, e2] at g
    rw [nx c1 c2 c3, ← Option.some.inj g, e3]
    omega
  · intro s h1 h2
    have hs := d.at_ s h2
    obtain ⟨x, hx⟩ : ∃ x, (dd (seen b stp s))[s - 1]? = some x := ⟨_, List.getElem?_eq_getElem (by omega)⟩
    have hx2 : x ∈ seen b stp s := mem_dd.mp (List.mem_of_getElem? hx)
    obtain ⟨i, hi⟩ := List.mem_iff_getElem?.mp hx2
    have hil := (List.getElem?_eq_some_iff.mp hi).1
    rw [seen_len b stp hb, if_neg (by omega)] at hil
    have hi2 : i + 1 < (m + 1) * b := by
      have : s * b ≤ (m + 1) * b := Nat.mul_le_mul_right _ (by omega)
      omega
    obtain ⟨c1, c2, c3⟩ := dm (j := i + 1) (by omega) hi2
    refine ⟨i + 1, by omega, by omega, ?_⟩
    have g := hat (j := i + 1) (by omega) hi2
    rw [Nat.add_sub_cancel] at g
    obtain ⟨r, hr⟩ := seen_pre b stp (show s ≤ m + 1 by omega)
    rw [hQ] at hr
    have g2 : Q[i]? = some x := by
      rw [hr, List.getElem?_append_left (List.getElem?_eq_some_iff.mp hi).1]
      exact hi
    rw [g2] at g
    rw [nx c1 c2 c3, ← Option.some.inj g]
    have e : ix Q x = s - 1 := by
      apply ix_of_get
      obtain ⟨z, hz⟩ := dd_seen_pre b stp (show s ≤ m + 1 by omega)
      rw [← hQ, ← hz, List.getElem?_append_left (by omega)]
      exact hx
    omega
  · intro t f h1 h2 h3
    rw [nx h1 h2 h3, Nat.add_sub_cancel]
    exact ix_get (mem h1 h2 h3)
/-- the state behind the figures of a number -/
def stOf (n : Nat) : Option S := (figs b n).foldl (fun o f => some (stp o f)) none
theorem stOf_snoc (hb : 2 ≤ b) {n f : Nat} (hf : f < b) (h : 0 < n ∨ 0 < f) : stOf b stp (n * b + f) = some (stp (stOf b stp n) f) := by
  unfold stOf
  rw [figs_snoc hb hf h, List.foldl_append]
  rfl
theorem done_run (hb : 2 ≤ b) {m : Nat} (d : Done b stp m) : ∀ n, 0 < n → (dd (seen b stp (m + 1)))[run (gridOf b stp (m + 1) (seen b stp (m + 1))) b n - 1]? = stOf b stp n := by
  obtain ⟨sc, nx⟩ := done_scan b stp hb d
  have R := sc.wf.run hb
  intro n
  induction n using Nat.strongRecOn with
  | ind n ih =>
    intro hn
    obtain ⟨e, h1, h2, h3⟩ := split_num hb hn
    have ihq := ih (n / b) h3
    have Rq := R (n / b)
    generalize n / b = q at *
    generalize n % b = f at *
    rw [e, run_snoc hb h1 h2, stOf_snoc b stp hb h1 h2]
    by_cases h : 0 < q
    · have g := nx (run _ b q) f (Rq h).2 h1 (.inl (Rq h).1)
      rw [g]
      have e2 : prevO (dd (seen b stp (m + 1))) (run (gridOf b stp (m + 1) (seen b stp (m + 1))) b q) = stOf b stp q := by
        unfold prevO
        have := (Rq h).1
        rw [if_neg (by omega)]
        exact ihq h
      rw [e2]
    · have h0 : q = 0 := by omega
      subst h0
      rw [run_zero]
      exact nx 0 f (Nat.zero_le _) h1 (.inr (by omega))
end
end Bz
end
section
set_option maxHeartbeats 400000
set_option autoImplicit false
set_option linter.unusedVariables false
set_option linter.unusedSectionVars false
namespace Bz
/-! classes, from one round to the next -/
section
variable {S : Type} [DecidableEq S]
theorem dd_ix_len (l : List S) : (dd (l.map (ix l))).length = (dd l).length := by
  have e1 : (l.map fun x => (x, ix l x)).map (·.1) = l := by rw [List.map_map]; exact List.map_id _
  have e2 : (l.map fun x => (x, ix l x)).map (·.2) = l.map (ix l) := by rw [List.map_map]; rfl
  have a := (dd_cnt (l.map fun x => (x, ix l x)) (fun p hp q hq e => by
    obtain ⟨x, hx, rfl⟩ := List.mem_map.mp hp
    obtain ⟨y, hy, rfl⟩ := List.mem_map.mp hq
    exact ix_inj hx hy e)).1
  rw [e1, e2] at a
  have e3 : (l.map fun x => (ix l x, x)).map (·.2) = l := by rw [List.map_map]; exact List.map_id _
  have e4 : (l.map fun x => (ix l x, x)).map (·.1) = l.map (ix l) := by rw [List.map_map]; rfl
  have c := (dd_cnt (l.map fun x => (ix l x, x)) (fun p hp q hq e => by
    obtain ⟨x, hx, rfl⟩ := List.mem_map.mp hp
    obtain ⟨y, hy, rfl⟩ := List.mem_map.mp hq
    have e : x = y := e
    rw [e])).1
  rw [e3, e4] at c
  omega
end
/-- the classes at one time: equal ones have equal marks, and what nothing tells apart is one class -/
structure ClsInv {M : Type} (b m : Nat) (g : List (List (Option Nat))) (mk : Nat → M) (cl : List Nat) : Prop where
  len : cl.length = m
  marks : ∀ s t, 1 ≤ s → s ≤ m → 1 ≤ t → t ≤ m → cl.getD (s - 1) 0 = cl.getD (t - 1) 0 → mk s = mk t
  alike : ∀ s t, 1 ≤ s → s ≤ m → 1 ≤ t → t ≤ m → Alike b g mk s t → cl.getD (s - 1) 0 = cl.getD (t - 1) 0
/-- .. at the end -/
structure Stable {M : Type} (b m : Nat) (g : List (List (Option Nat))) (mk : Nat → M) (cl : List Nat) : Prop where
  inv : ClsInv b m g mk cl
  step : ∀ s t f, 1 ≤ s → s ≤ m → 1 ≤ t → t ≤ m → f < b → cl.getD (s - 1) 0 = cl.getD (t - 1) 0 → cl.getD (nxt g s f - 1) 0 = cl.getD (nxt g t f - 1) 0
theorem getD_map {α β : Type} (l : List α) (f : α → β) (i : Nat) (d : β) (a : α) (h : l[i]? = some a) : (l.map f).getD i d = f a := by
  rw [List.getD_eq_getElem?_getD, List.getElem?_map, h] <;> rfl
theorem first_cls {M : Type} [DecidableEq M] {b m : Nat} {g : List (List (Option Nat))} {mk : Nat → M} {mks : List M} (hl : mks.length = m) (h : ∀ s, 1 ≤ s → s ≤ m → mks[s - 1]? = some (mk s)) : ClsInv b m g mk (mks.map (ix mks)) := by
  have mem : ∀ s, 1 ≤ s → s ≤ m → mk s ∈ mks := fun s a c => List.mem_of_getElem? (h s a c)
  refine ⟨by rw [List.length_map, hl], fun s t a1 a2 b1 b2 e => ?_, fun s t a1 a2 b1 b2 A => ?_⟩
  · rw [getD_map _ _ _ _ _ (h s a1 a2), getD_map _ _ _ _ _ (h t b1 b2)] at e
    exact ix_inj (mem s a1 a2) (mem t b1 b2) e
  · rw [getD_map _ _ _ _ _ (h s a1 a2), getD_map _ _ _ _ _ (h t b1 b2)]
    have : mk s = mk t := A [] (by simp)
    rw [this]
/-- what a state shows: its class, the classes behind each figure -/
def sigN (b : Nat) (g : List (List (Option Nat))) (cl : List Nat) (s : Nat) : List Nat := cl.getD (s - 1) 0 :: (List.range b).map fun f => cl.getD (nxt g s f - 1) 0
def sigI (b : Nat) (g : List (List (Option Nat))) (cl : List Nat) (s : Nat) : List Int := (sigN b g cl s).map fun n : Nat => (n : Int)
def sigs (b m : Nat) (g : List (List (Option Nat))) (cl : List Nat) : List (List Int) := (List.range m).map fun i => sigI b g cl (i + 1)
theorem sigI_eq {b : Nat} {g : List (List (Option Nat))} {cl : List Nat} {s t : Nat} (h : sigI b g cl s = sigI b g cl t) : cl.getD (s - 1) 0 = cl.getD (t - 1) 0 ∧ ∀ f, f < b → cl.getD (nxt g s f - 1) 0 = cl.getD (nxt g t f - 1) 0 := by
  have h2 : sigN b g cl s = sigN b g cl t := by
    unfold sigI at h
    exact (List.map_inj_right (fun a c e => Int.ofNat.inj e)).mp h
  unfold sigN at h2
  injection h2 with h3 h4
  refine ⟨h3, fun f hf => ?_⟩
  have := congrArg (fun l : List Nat => l[f]?) h4
  simp only [List.getElem?_map, List.getElem?_range hf] at this
  exact Option.some.inj this
theorem sigI_of {b : Nat} {g : List (List (Option Nat))} {cl : List Nat} {s t : Nat} (h : cl.getD (s - 1) 0 = cl.getD (t - 1) 0) (h2 : ∀ f, f < b → cl.getD (nxt g s f - 1) 0 = cl.getD (nxt g t f - 1) 0) : sigI b g cl s = sigI b g cl t := by
  unfold sigI sigN
  rw [h]
  congr 2
  apply List.map_congr_left
  intro f hf
  exact h2 f (List.mem_range.mp hf)
theorem sigs_at {b m : Nat} {g : List (List (Option Nat))} {cl : List Nat} {s : Nat} (h1 : 1 ≤ s) (h2 : s ≤ m) : (sigs b m g cl)[s - 1]? = some (sigI b g cl s) := by
  unfold sigs
  rw [List.getElem?_map, List.getElem?_range (by omega)]
  show some (sigI b g cl (s - 1 + 1)) = _
  rw [Nat.sub_add_cancel h1]
/-- the classes of the next round -/
def nextCl (b m : Nat) (g : List (List (Option Nat))) (cl : List Nat) : List Nat := (sigs b m g cl).map (ix (sigs b m g cl))
theorem nextCl_iff {b m : Nat} {g : List (List (Option Nat))} {cl : List Nat} {s t : Nat} (s1 : 1 ≤ s) (s2 : s ≤ m) (t1 : 1 ≤ t) (t2 : t ≤ m) : (nextCl b m g cl).getD (s - 1) 0 = (nextCl b m g cl).getD (t - 1) 0 ↔ sigI b g cl s = sigI b g cl t := by
  unfold nextCl
  rw [getD_map _ _ _ _ _ (sigs_at s1 s2), getD_map _ _ _ _ _ (sigs_at t1 t2)]
  exact ⟨fun e => ix_inj (List.mem_of_getElem? (sigs_at s1 s2)) (List.mem_of_getElem? (sigs_at t1 t2)) e, fun e => by rw [e]⟩
theorem next_cls {M : Type} {b m : Nat} {g : List (List (Option Nat))} {mk : Nat → M} {cl : List Nat} (w : Wf b m g) (c : ClsInv b m g mk cl) : ClsInv b m g mk (nextCl b m g cl) := by
  refine ⟨by unfold nextCl sigs; simp, fun s t a1 a2 b1 b2 e => ?_, fun s t a1 a2 b1 b2 A => ?_⟩
  · exact c.marks s t a1 a2 b1 b2 (sigI_eq ((nextCl_iff a1 a2 b1 b2).mp e)).1
  · refine (nextCl_iff a1 a2 b1 b2).mpr (sigI_of (c.alike s t a1 a2 b1 b2 A) fun f hf => ?_)
    obtain ⟨n1, n2⟩ := w.nxt a2 hf (.inl a1)
    obtain ⟨n3, n4⟩ := w.nxt b2 hf (.inl b1)
    exact c.alike _ _ n1 n2 n3 n4 (A.step hf)
theorem next_cnt {M : Type} {b m : Nat} {g : List (List (Option Nat))} {mk : Nat → M} {cl : List Nat} (w : Wf b m g) (c : ClsInv b m g mk cl) : (dd cl).length ≤ (dd (nextCl b m g cl)).length ∧ ((dd cl).length = (dd (nextCl b m g cl)).length → Stable b m g mk (nextCl b m g cl)) := by
  have c2 := next_cls w c
  have e1 : ((List.range m).map fun i => (cl.getD i 0, (nextCl b m g cl).getD i 0)).map (·.1) = cl := by
    rw [List.map_map]
    apply List.ext_getElem?
    intro i
    rw [List.getElem?_map]
    by_cases h : i < m
    · rw [List.getElem?_range h, List.getElem?_eq_getElem (by rw [c.len]; exact h)]
      show some (cl.getD i 0) = _
      rw [List.getD_eq_getElem?_getD, List.getElem?_eq_getElem (by rw [c.len]; exact h)] <;> rfl
    · rw [List.getElem?_eq_none (by simpa using h), List.getElem?_eq_none (by rw [c.len]; omega)] <;> rfl
  have e2 : ((List.range m).map fun i => (cl.getD i 0, (nextCl b m g cl).getD i 0)).map (·.2) = nextCl b m g cl := by
    rw [List.map_map]
    apply List.ext_getElem?
    intro i
    rw [List.getElem?_map]
    by_cases h : i < m
    · rw [List.getElem?_range h, List.getElem?_eq_getElem (by rw [c2.len]; exact h)]
      show some ((nextCl b m g cl).getD i 0) = _
      rw [List.getD_eq_getElem?_getD, List.getElem?_eq_getElem (by rw [c2.len]; exact h)] <;> rfl
    · rw [List.getElem?_eq_none (by simpa using h), List.getElem?_eq_none (by rw [c2.len]; omega)] <;> rfl
  obtain ⟨L, EQ⟩ := dd_cnt ((List.range m).map fun i => (cl.getD i 0, (nextCl b m g cl).getD i 0)) fun p hp q hq e => by
    obtain ⟨i, hi, rfl⟩ := List.mem_map.mp hp
    obtain ⟨j, hj, rfl⟩ := List.mem_map.mp hq
    have hi := List.mem_range.mp hi
    have hj := List.mem_range.mp hj
    have e' := (nextCl_iff (b := b) (g := g) (cl := cl) (s := i + 1) (t := j + 1) (by omega) (by omega : i + 1 ≤ m) (by omega) (by omega)).mp e
    exact (sigI_eq e').1
  rw [e1, e2] at L EQ
  refine ⟨L, fun e => ⟨c2, fun s t f a1 a2 b1 b2 hf h => ?_⟩⟩
  have h3 := (sigI_eq ((nextCl_iff a1 a2 b1 b2).mp h)).2 f hf
  obtain ⟨n1, n2⟩ := w.nxt a2 hf (.inl a1)
  obtain ⟨n3, n4⟩ := w.nxt b2 hf (.inl b1)
  have g1 : (cl.getD (nxt g s f - 1) 0, (nextCl b m g cl).getD (nxt g s f - 1) 0) ∈ (List.range m).map fun i => (cl.getD i 0, (nextCl b m g cl).getD i 0) := List.mem_map.mpr ⟨nxt g s f - 1, List.mem_range.mpr (by omega), rfl⟩
  have g2 : (cl.getD (nxt g t f - 1) 0, (nextCl b m g cl).getD (nxt g t f - 1) 0) ∈ (List.range m).map fun i => (cl.getD i 0, (nextCl b m g cl).getD i 0) := List.mem_map.mpr ⟨nxt g t f - 1, List.mem_range.mpr (by omega), rfl⟩
  exact EQ e _ g1 _ g2 h3
/-- at the end a class is just what nothing tells apart -/
theorem Stable.iff {M : Type} {b m : Nat} {g : List (List (Option Nat))} {mk : Nat → M} {cl : List Nat} (w : Wf b m g) (c : Stable b m g mk cl) {s t : Nat} (s1 : 1 ≤ s) (s2 : s ≤ m) (t1 : 1 ≤ t) (t2 : t ≤ m) :
    cl.getD (s - 1) 0 = cl.getD (t - 1) 0 ↔ Alike b g mk s t :=
  ⟨fun e l hl => alike_of_stable w (cl := fun s => cl.getD (s - 1) 0) c.inv.marks c.step l s t s1 s2 t1 t2 e hl, c.inv.alike s t s1 s2 t1 t2⟩
end Bz
end
section
set_option maxHeartbeats 400000
set_option autoImplicit false
set_option linter.unusedVariables false
namespace Bz
/-! the first state of each class; the machine of the classes -/
def fst1 (cl : List Nat) : Nat → List Nat
  | 0 => []
  | n + 1 => if cl.getD n 0 ∈ cl.take n then fst1 cl n else fst1 cl n ++ [n + 1]
theorem take_snoc (cl : List Nat) {n : Nat} (h : n < cl.length) : cl.take (n + 1) = cl.take n ++ [cl.getD n 0] := by
  rw [List.take_add_one, List.getD_eq_getElem?_getD, List.getElem?_eq_getElem h] <;> rfl
theorem fst1_cls (cl : List Nat) : ∀ n, n ≤ cl.length → (fst1 cl n).map (fun s => cl.getD (s - 1) 0) = dd (cl.take n) := by
  intro n
  induction n with
  | zero => intro _; rw [List.take_zero] <;> rfl
  | succ n ih =>
    intro h
    rw [take_snoc cl h, dd_snoc]
    unfold ddS fst1
    by_cases hm : cl.getD n 0 ∈ cl.take n
    · rw [if_pos hm, if_pos (mem_dd.mpr hm), ih (by omega)]
    · rw [if_neg hm, if_neg (fun z => hm (mem_dd.mp z)), List.map_append, ih (by omega)] <;> rfl
theorem fst1_le (cl : List Nat) : ∀ n, ∀ s ∈ fst1 cl n, 1 ≤ s ∧ s ≤ n := by
  intro n
  induction n with
  | zero => intro s h; cases h
  | succ n ih =>
    intro s h
    unfold fst1 at h
    split at h
    · have := ih s h; omega
    · rcases List.mem_append.mp h with h | h
      · have := ih s h; omega
      · rw [List.mem_singleton.mp h]; omega
theorem fst1_up (cl : List Nat) : ∀ n, (fst1 cl n).Pairwise (· < ·) := by
  intro n
  induction n with
  | zero => exact .nil
  | succ n ih =>
    unfold fst1
    split
    · exact ih
    · rw [List.pairwise_append]
      refine ⟨ih, List.pairwise_singleton _ _, fun a ha c hc => ?_⟩
      rw [List.mem_singleton.mp hc]
      have := fst1_le cl n a ha
      omega
theorem fst1_find (cl : List Nat) : ∀ n, n ≤ cl.length → ∀ s, 1 ≤ s → s ≤ n → ∃ j r : Nat, (fst1 cl n)[j]? = some r ∧ r ≤ s ∧ cl.getD (r - 1) 0 = cl.getD (s - 1) 0 := by
  intro n
  induction n with
  | zero => intro _ s h1 h2; omega
  | succ n ih =>
    intro h s h1 h2
    have old : ∀ s, 1 ≤ s → s ≤ n → ∃ j r : Nat, (fst1 cl (n + 1))[j]? = some r ∧ r ≤ s ∧ cl.getD (r - 1) 0 = cl.getD (s - 1) 0 := fun s h1 h2 => by
      obtain ⟨j, r, a, b, c⟩ := ih (by omega) s h1 h2
      refine ⟨j, r, ?_, b, c⟩
      unfold fst1
      split
      · exact a
      · rw [List.getElem?_append_left (List.getElem?_eq_some_iff.mp a).1]; exact a
    by_cases hs : s ≤ n
    · exact old s h1 hs
    · have hs : s = n + 1 := by omega
      subst hs
      by_cases hm : cl.getD n 0 ∈ cl.take n
      · obtain ⟨i, hi⟩ := List.mem_iff_getElem?.mp hm
        have hil := (List.getElem?_eq_some_iff.mp hi).1
        rw [List.length_take] at hil
        rw [List.getElem?_take, if_pos (by omega)] at hi
        obtain ⟨j, r, a, b, c⟩ := old (i + 1) (by omega) (by omega)
        refine ⟨j, r, a, by omega, c.trans ?_⟩
        rw [Nat.add_sub_cancel, Nat.add_sub_cancel, List.getD_eq_getElem?_getD, hi] <;> rfl
      · refine ⟨(fst1 cl n).length, n + 1, ?_, Nat.le_refl _, rfl⟩
        have e : fst1 cl (n + 1) = fst1 cl n ++ [n + 1] := by
          rw [fst1, if_neg hm]
        rw [e, List.getElem?_append_right (Nat.le_refl _), Nat.sub_self] <;> rfl
def rep1 (cl : List Nat) (j : Nat) : Nat := if j = 0 then 0 else (fst1 cl cl.length).getD (j - 1) 0
def cls1 (cl : List Nat) (s : Nat) : Nat := ix cl (cl.getD (s - 1) 0) + 1
def lstG (g : List (List (Option Nat))) (cl : List Nat) : List (List (Option Nat)) := (List.range ((dd cl).length + 1)).map fun j => ((g[rep1 cl j]?).getD []).map (Option.map (cls1 cl))
theorem fst1_len (cl : List Nat) : (fst1 cl cl.length).length = (dd cl).length := by
  have := congrArg List.length (fst1_cls cl cl.length (Nat.le_refl _))
  rw [List.length_map, List.take_length] at this
  exact this
theorem fst1_at (cl : List Nat) {j r : Nat} (h : (fst1 cl cl.length)[j]? = some r) : ix cl (cl.getD (r - 1) 0) = j := by
  apply ix_of_get
  have := congrArg (fun l : List Nat => l[j]?) (fst1_cls cl cl.length (Nat.le_refl _))
  simp only [List.take_length, List.getElem?_map, h] at this
  exact this.symm
theorem rep1_at (cl : List Nat) {j : Nat} (h1 : 1 ≤ j) (h2 : j ≤ (dd cl).length) : (fst1 cl cl.length)[j - 1]? = some (rep1 cl j) := by
  unfold rep1
  rw [if_neg (by omega), List.getD_eq_getElem?_getD, List.getElem?_eq_getElem (by rw [fst1_len]; omega)] <;> rfl
theorem quot1 {M : Type} {b m : Nat} {g : List (List (Option Nat))} {mk : Nat → M} {cl : List Nat} (w : Wf b m g) (c : Stable b m g mk cl) : Quot b m g mk (dd cl).length (lstG g cl) (rep1 cl) (cls1 cl) := by
  have hl := c.inv.len
  have mem : ∀ s, 1 ≤ s → s ≤ m → cl.getD (s - 1) 0 ∈ cl := fun s h1 h2 => by
    rw [List.getD_eq_getElem?_getD, List.getElem?_eq_getElem (by omega)]
    exact List.getElem_mem _
  refine ⟨rfl, fun j h1 h2 => ?_, fun j k h1 h2 h3 => ?_, fun s h1 h2 => ?_, fun s t s1 s2 t1 t2 => ?_, rfl⟩
  · have h := rep1_at cl h1 h2
    have := fst1_le cl cl.length _ (List.mem_of_getElem? h)
    refine ⟨this.1, by omega, ?_⟩
    unfold cls1
    rw [fst1_at cl h]
    omega
  · have a := rep1_at cl h1 (show j ≤ (dd cl).length by omega)
    have d := rep1_at cl (show 1 ≤ k by omega) h3
    have := fst1_up cl cl.length
    rw [List.pairwise_iff_getElem] at this
    obtain ⟨x1, x2⟩ := List.getElem?_eq_some_iff.mp a
    obtain ⟨y1, y2⟩ := List.getElem?_eq_some_iff.mp d
    rw [← x2, ← y2]
    exact this _ _ _ _ (by omega)
  · refine ⟨by unfold cls1; omega, ?_, ?_⟩
    · have := ix_lt (mem s h1 h2)
      unfold cls1
      omega
    · obtain ⟨j, r, a, d, e⟩ := fst1_find cl cl.length (Nat.le_refl _) s h1 (by omega)
      have := fst1_at cl a
      rw [e] at this
      unfold cls1 rep1
      rw [if_neg (by omega), this, Nat.add_sub_cancel, List.getD_eq_getElem?_getD, a]
      exact d
  · rw [← c.iff w s1 s2 t1 t2]
    unfold cls1
    exact ⟨fun e => ix_inj (mem s s1 s2) (mem t t1 t2) (by omega), fun e => by rw [e]⟩
theorem dd_le_m {M : Type} {b m : Nat} {g : List (List (Option Nat))} {mk : Nat → M} {cl : List Nat} (c : Stable b m g mk cl) : (dd cl).length ≤ m := by
  have := dd_len cl
  rw [c.inv.len] at this
  exact this
end Bz
end
section
set_option Elab.async false
set_option linter.all false
set_option maxRecDepth 100000
set_option maxHeartbeats 2000000
namespace Bz
open PySem PySem.Spec PyProof.Rows L2 LamX NdefX
/-! ### functions made in a def's body: what they are, what their cells hold -/
structure CF where
  name : Str
  qual : Str
  params : Arguments
  body : FuncBody
  scope : Scope
  cl : List (Str × Addr)
  c : Addr
abbrev CF.fd (F : CF) (doc pm ctv : Value) : FuncData :=
  { name := F.name, qualname := F.qual, params := F.params, body := F.body, scope := F.scope, globals := mainGlobals, closure := F.cl, defaults := .none, kwdefaults := .none, doc := doc, pyModule := pm, annotations := none, code := .ref F.c, closureTuple := ctv, builtins := builtinsNs }
def CFO (f : Addr) (F : CF) : HO := .ext fun h => ∃ (od : Option Addr) (sl : Array (Option Value)) (doc pm ctv : Value), h.get? f = some (⟨.type "function", od, .func (F.fd doc pm ctv), sl⟩ : Obj)
theorem cfo_at {P : Program} {w : World} {H : Hp} {h : Heap} {f : Addr} {F : CF} (hok : HOk P w H h) (e : H f = some (CFO f F)) : ∃ (od : Option Addr) (sl : Array (Option Value)) (doc pm ctv : Value), h.get? f = some (⟨.type "function", od, .func (F.fd doc pm ctv), sl⟩ : Obj) := by
  obtain ⟨z, _, _⟩ := hok f _ e
  exact z
/-- a captured cell, as the very object that it is -/
def CellX (c : Addr) (o : Obj) : HO := .ext fun h => h.get? c = some o
theorem cellx_at {P : Program} {w : World} {H : Hp} {h : Heap} {c : Addr} {o : Obj} (hok : HOk P w H h) (e : H c = some (CellX c o)) : h.get? c = some o := by
  obtain ⟨z, _, _⟩ := hok c _ e
  exact z
theorem cellx_ok {P : Program} {w : World} {H : Hp} {h : Heap} {c : Addr} {o : Obj} (e : h.get? c = some o) : ObjOk P w H h c (CellX c o) := ⟨e, ⟨o, e⟩, fun _ _ z k => k _ z⟩
abbrev Cells := List (Addr × Obj)
def trkC (cs : Cells) (H : Hp) : Hp := fun b => match cs.lookup b with
  | some o => some (CellX b o)
  | none => H b
def untC (cs : Cells) (H : Hp) : Hp := fun b => match cs.lookup b with
  | some _ => none
  | none => H b
theorem trk_in {cs : Cells} {H : Hp} {b : Addr} {o : Obj} (e : cs.lookup b = some o) : trkC cs H b = some (CellX b o) := by unfold trkC; rw [e]
theorem trk_out {cs : Cells} {H : Hp} {b : Addr} (e : cs.lookup b = none) : trkC cs H b = H b := by unfold trkC; rw [e]
theorem unt_in {cs : Cells} {H : Hp} {b : Addr} {o : Obj} (e : cs.lookup b = some o) : untC cs H b = none := by unfold untC; rw [e]
theorem unt_out {cs : Cells} {H : Hp} {b : Addr} (e : cs.lookup b = none) : untC cs H b = H b := by unfold untC; rw [e]
theorem trk_unt {cs : Cells} {H : Hp} (h : ∀ c o, cs.lookup c = some o → H c = some (CellX c o)) : trkC cs (untC cs H) = H := by
  funext b
  cases e : cs.lookup b with
  | none => rw [trk_out e, unt_out e]
  | some o => rw [trk_in e, h b o e]
theorem unt_trk {cs : Cells} {H : Hp} (h : ∀ c o, cs.lookup c = some o → H c = none) : untC cs (trkC cs H) = H := by
  funext b
  cases e : cs.lookup b with
  | none => rw [unt_out e, trk_out e]
  | some o => rw [unt_in e, h b o e]
theorem cellx_ne_own {c x : Addr} {o : Obj} : CellX c o ≠ .own x := fun z => by unfold CellX at z; cases z
theorem cellx_ne_tup {c : Addr} {o : Obj} {xs : List V} : CellX c o ≠ .tup xs := fun z => by unfold CellX at z; cases z
theorem cellx_ne_frz {c : Addr} {o ob : Obj} {u : HO} : CellX c o ≠ .frz ob u := fun z => by unfold CellX at z; cases z
theorem cellx_ne_tbl {c : Addr} {o : Obj} {ps : Array Value} : CellX c o ≠ .tbl ps := fun z => by unfold CellX at z; cases z
section
variable {P : Program} {w : World} {cs : Cells} {H : Hp} {h : Heap}
theorem hok_trk (x : HOk P w H h) (hc : ∀ c o, cs.lookup c = some o → H c = none ∧ h.get? c = some o) : HOk P w (trkC cs H) h := fun b u e => by
  cases q : cs.lookup b with
  | some o =>
    rw [trk_in q] at e
    cases e
    exact cellx_ok (hc b o q).2
  | none =>
    rw [trk_out q] at e
    refine (x b u e).stay (fun _ _ _ z => z) (fun d z => ?_) fun d xs z => ?_
    · cases r : cs.lookup d with
      | none => rw [trk_out r]; exact z
      | some o => rw [(hc d o r).1] at z; cases z
    · cases r : cs.lookup d with
      | none => rw [trk_out r]; exact z
      | some o => rw [(hc d o r).1] at z; cases z
theorem hok_unt (x : HOk P w H h) (hc : ∀ c o, cs.lookup c = some o → H c = some (CellX c o)) : HOk P w (untC cs H) h := fun b u e => by
  cases q : cs.lookup b with
  | some o => rw [unt_in q] at e; cases e
  | none =>
    rw [unt_out q] at e
    refine (x b u e).stay (fun _ _ _ z => z) (fun d z => ?_) fun d xs z => ?_
    · cases r : cs.lookup d with
      | none => rw [unt_out r]; exact z
      | some o => rw [hc d o r] at z; exact absurd (Option.some.inj z) cellx_ne_own
    · cases r : cs.lookup d with
      | none => rw [unt_out r]; exact z
      | some o => rw [hc d o r] at z; exact absurd (Option.some.inj z) cellx_ne_tup
end
section
variable {fs : List Addr} {cs : Cells} {H H' : Hp} {h h' : Heap}
/-- behind a call that was entered with the cells not tracked: they are tracked again -/
theorem un_trk (u : Un fs [] (untC cs H) H' h h') (hc : ∀ c o, cs.lookup c = some o → H c = some (CellX c o)) : Un fs [] H (trkC cs H') h h' := by
  have un : ∀ b, H b = none → untC cs H b = none ∧ cs.lookup b = none := fun b n => by
    cases q : cs.lookup b with
    | some o => rw [hc b o q] at n; cases n
    | none => exact ⟨by rw [unt_out q]; exact n, rfl⟩
  have up : ∀ b x, H b = some x → (∀ c o, x ≠ CellX c o) → untC cs H b = some x ∧ cs.lookup b = none := fun b x e n => by
    cases q : cs.lookup b with
    | some o => rw [hc b o q] at e; exact absurd (Option.some.inj e).symm (n b o)
    | none => exact ⟨by rw [unt_out q]; exact e, rfl⟩
  refine ⟨fun b o e n hb hx => u.keep b o e (un b n).1 hb hx, fun b o e n hb hx => u.slot b o e (un b n).1 hb hx, fun b o e n hx => by rw [trk_out (un b n).2]; exact u.free b o e (un b n).1 hx, fun b o e hx => u.there b o e hx, fun b xs e => ?_, fun b o x e => ?_, fun b ps e => ?_⟩
  · obtain ⟨e1, e2⟩ := up b _ e fun c o z => cellx_ne_tup z.symm
    rw [trk_out e2]
    exact u.tups b xs e1
  · obtain ⟨e1, e2⟩ := up b _ e fun c o' z => cellx_ne_frz z.symm
    rw [trk_out e2]
    exact u.frzs b o x e1
  · obtain ⟨e1, e2⟩ := up b _ e fun c o' z => cellx_ne_tbl z.symm
    rw [trk_out e2]
    exact u.tbls b ps e1
/-- behind a call that was entered with the frame's own cells tracked: they are not tracked again -/
theorem un_unt (u : Un fs [] (trkC cs H) H' h h') (hc : ∀ c o, cs.lookup c = some o → H c = none ∧ h.get? c = some o) (hc' : ∀ c o, cs.lookup c = some o → h'.get? c = some o) : Un fs [] H (untC cs H') h h' := by
  have al : ∀ b x, H b = some x → trkC cs H b = some x ∧ cs.lookup b = none := fun b x e => by
    cases q : cs.lookup b with
    | some o => rw [(hc b o q).1] at e; cases e
    | none => exact ⟨by rw [trk_out q]; exact e, rfl⟩
  refine ⟨fun b o e n hb hx => ?_, fun b o e n hb hx => ?_, fun b o e n hx => ?_, fun b o e hx => u.there b o e hx, fun b xs e => ?_, fun b o x e => ?_, fun b ps e => ?_⟩
  · cases q : cs.lookup b with
    | some o' =>
      have z := (hc b o' q).2
      rw [e] at z
      cases z
      exact hc' b o q
    | none => exact u.keep b o e (by rw [trk_out q]; exact n) hb hx
  · cases q : cs.lookup b with
    | some o' =>
      have z := (hc b o' q).2
      rw [e] at z
      cases z
      exact ⟨o.slots, hc' b o q⟩
    | none => exact u.slot b o e (by rw [trk_out q]; exact n) hb hx
  · cases q : cs.lookup b with
    | some o' => exact unt_in q
    | none => rw [unt_out q]; exact u.free b o e (by rw [trk_out q]; exact n) hx
  · obtain ⟨e1, e2⟩ := al b _ e
    rw [unt_out e2]
    exact u.tups b xs e1
  · obtain ⟨e1, e2⟩ := al b _ e
    rw [unt_out e2]
    exact u.frzs b o x e1
  · obtain ⟨e1, e2⟩ := al b _ e
    rw [unt_out e2]
    exact u.tbls b ps e1
end
/-! ### a function object that may be called -/
abbrev CXN : CXT := fun _ _ _ _ _ _ => False
/-- the function F at f, its cells cs tracked, keeps the promise sp -/
structure Runs (P : Program) (w : World) (K : PySem.W.Frag) (mg : Str → Option Value) (base : Heap) (k : Nat) (f : Addr) (F : CF) (cs : Cells) (sp : Sp) : Prop where
  run : ∀ (A : Around) (outer : List Env) (s : Shared) (H : Hp) (us : List Value) (vs : List V) (Q : VK) (E : XK), Room k A → Env0 P w K mg base A outer s H → H f = some (CFO f F) → H F.c = some (CodeO F.c F.qual) → (∀ c o, cs.lookup c = some o → H c = some (CellX c o)) →
    Vals vs us → sp vs H Q E → codeAny (model P w) A (.call (.ref f) ⟨us, []⟩) (CR CXN outer P w H s Q E) s
/-- at f stands a function that keeps the promise sp -/
structure Clo (P : Program) (w : World) (K : PySem.W.Frag) (mg : Str → Option Value) (base : Heap) (k : Nat) (H : Hp) (f : Addr) (sp : Sp) : Prop where
  ex : ∃ (F : CF) (cs : Cells), H f = some (CFO f F) ∧ H F.c = some (CodeO F.c F.qual) ∧ (∀ c o, cs.lookup c = some o → H c = some (CellX c o)) ∧ Runs P w K mg base k f F cs sp
theorem cfo_ne {f : Addr} {F : CF} (ps : Array Value) : CFO f F ≠ .tbl ps := fun z => by unfold CFO at z; cases z
theorem Clo.ext {P : Program} {w : World} {K : PySem.W.Frag} {mg : Str → Option Value} {base : Heap} {k : Nat} {H H' : Hp} {f : Addr} {sp : Sp} (x : Clo P w K mg base k H f sp) (e : ExtN H H') : Clo P w K mg base k H' f sp := by
  obtain ⟨F, cs, h1, h2, h3, h4⟩ := x.ex
  exact ⟨F, cs, e _ _ h1 cfo_ne, e _ _ h2 codeO_ne, fun c o q => e _ _ (h3 c o q) fun ps => cellx_ne_tbl, h4⟩
theorem Clo.mono {P : Program} {w : World} {K : PySem.W.Frag} {mg : Str → Option Value} {base : Heap} {j k : Nat} {H : Hp} {f : Addr} {sp : Sp} (x : Clo P w K mg base j H f sp) (h : j ≤ k) : Clo P w K mg base k H f sp := by
  obtain ⟨F, cs, h1, h2, h3, h4⟩ := x.ex
  exact ⟨F, cs, h1, h2, h3, ⟨fun A outer s H us vs Q E hr => h4.run A outer s H us vs Q E (hr.mono h)⟩⟩
/-- the same of another promise -/
theorem Clo.imp {P : Program} {w : World} {K : PySem.W.Frag} {mg : Str → Option Value} {base : Heap} {k : Nat} {H : Hp} {f : Addr} {sp sp' : Sp} (x : Clo P w K mg base k H f sp) (h : ∀ vs H Q E, sp' vs H Q E → sp vs H Q E) : Clo P w K mg base k H f sp' := by
  obtain ⟨F, cs, h1, h2, h3, h4⟩ := x.ex
  exact ⟨F, cs, h1, h2, h3, ⟨fun A outer s H us vs Q E hr e0 a b c r q => h4.run A outer s H us vs Q E hr e0 a b c r (h _ _ _ _ q)⟩⟩
/-- x(e, ..), x a name that holds such a function -/
def tCallC (P : Program) (w : World) (K : PySem.W.Frag) (mg : Str → Option Value) (base : Heap) (k i : Nat) (t : TA) : TE := fun σ H Q => ∃ f, σ[i]? = some (some (.ref f)) ∧ (∃ sp, Clo P w K mg base k H f sp) ∧ t σ H fun vs H1 => ∃ sp, Clo P w K mg base k H1 f sp ∧ sp vs H1 Q fun _ _ _ => False
section
variable {X : Cx} {P : Program} {w : World} {K : PySem.W.Frag} {mg : Str → Option Value} {base : Heap} {i k : Nat} {x : Str} {t : TA} {e : Expr} {es : List Expr} {p pos : Pos}
theorem cfn_at {pins : List (Addr × Obj)} {σ : L2.St} {H : Hp} {s : Shared} {f : Addr} {F : CF} (I : Inv X pins σ H s) (e : H f = some (CFO f F)) : PySem.W.FnAt f s.heap := by
  obtain ⟨od, sl, doc, pm, ctv, ho⟩ := cfo_at I.hok e
  exact ⟨_, od, _, sl, ho⟩
theorem pe_callC (hX : X.prog = P ∧ X.w = w ∧ X.K = K ∧ X.mg = mg ∧ X.base = base) (hr : Room k X.A) (hN : X.N[i]? = some x) (hv : Vis X.env.scope x) (ha : PA X (e :: es) t)
    (hd : (x == ("__debug__" : Str)) = false := by decide) (hcd : (x == ("__classdict__" : Str)) = false := by decide)
    (he : starEach (e :: es) X.env = (false, eval e X.env) :: starEach es X.env := by rfl) (hpl : (backTo pos (starEach es X.env)).any (·.1) = false := by rfl) :
    PE X (.Call (.Name x p) (e :: es) [] pos) (tCallC P w K mg base k i t) := by
  obtain ⟨rfl, rfl, rfl, rfl, rfl⟩ := hX
  refine ⟨fun pins s σ H Q I h => ?_⟩
  obtain ⟨f, hs, ⟨sp0, c0⟩, ht⟩ := h
  refine wpAny_Call_Name_kw (thn ((pe_var (pos := p) hN hv hd hcd).run pins s σ H (fun v H1 => v = .ref f ∧ H1 = H) I ⟨.ref f, hs, rfl, rfl⟩) fun u s1 ⟨v, H1, I1, r1, q1⟩ => ?_)
  obtain ⟨ev, eH⟩ := q1
  subst ev
  rw [eH] at I1
  obtain rfl : u = Value.ref f := r1
  obtain ⟨F0, cs0, a0, _, _, _⟩ := c0.ex
  refine PySem.W.callWith_F (first := []) (cfn_at I1 a0) (thn (ha.run pos pins s1 σ H _ I1 ht) fun us s2 ⟨vs, H2, I2, r, sp, c2, q⟩ => ?_) he hpl
  obtain ⟨F, cs, h1, h2, h3, h4⟩ := c2.ex
  refine ⟨cfn_at I2 h1, ?_⟩
  show wpAny _ _ (call (.ref f) us) _ _ _
  refine wpAny_call (codeAny_mono (h4.run X.A X.stack s2 H2 us vs Q _ hr I2.env0 h1 h2 h3 r q) fun r s' hq => ?_)
  cases r with
  | error e => exact False.elim hq
  | ok fl =>
    cases fl with
    | ret u => exact I2.after hq
    | next => exact False.elim hq
    | brk => exact False.elim hq
    | cont => exact False.elim hq
end
/-! ### the body of such a function -/
abbrev envC (F : CF) (f L : Addr) : Env := PySem.W.envX F.qual F.scope L f (.ref F.c) F.cl
/-- the words of a body of statements, as NF has them -/
abbrev CF.nf (F : CF) : NF := ⟨F.name, F.qual, F.params, [], F.scope, F.cl, F.c⟩
/-- what the cells hold -/
structure CellsC (F : CF) (fr : List Str) (ws : List (Option V)) (cs : Cells) : Prop where
  len : ws.length = fr.length
  all : ∀ y c, F.cl.lookup y = some c → ∃ o v, cs.lookup c = some o ∧ o.data = .cell v
  inj : ∀ x y c, F.cl.lookup x = some c → F.cl.lookup y = some c → x = y
  has : ∀ (i : Nat) (y : Str), fr[i]? = some y → ∃ c, F.cl.lookup y = some c ∧ ∀ v, ws[i]? = some (some v) → ∃ o u, cs.lookup c = some o ∧ o.data = .cell (some u) ∧ L2.RelV v u
  nof : ∀ c o, cs.lookup c = some o → ∃ v, o.data = .cell v
theorem CellsC.at_ {F : CF} {fr : List Str} {ws : List (Option V)} {cs : Cells} {P : Program} {w : World} {H : Hp} {h : Heap} (C : CellsC F fr ws cs) (hok : HOk P w H h) (hc : ∀ c o, cs.lookup c = some o → H c = some (CellX c o)) : CellsAt F.cl fr ws h (untC cs H) := by
  refine ⟨C.len, fun y c e => ?_, C.inj, fun i y e => ?_⟩
  · obtain ⟨o, v, h1, h2⟩ := C.all y c e
    exact ⟨unt_in h1, v, o, cellx_at hok (hc c o h1), h2⟩
  · obtain ⟨c, h1, h2⟩ := C.has i y e
    refine ⟨c, h1, fun v ev => ?_⟩
    obtain ⟨o, u, h3, h4, h5⟩ := h2 v ev
    exact ⟨u, h5, o, cellx_at hok (hc c o h3), h4⟩
theorem env0_unt {P : Program} {w : World} {K : PySem.W.Frag} {mg : Str → Option Value} {base : Heap} {A : Around} {outer : List Env} {s : Shared} {H : Hp} {cs : Cells} (e0 : Env0 P w K mg base A outer s H) (hc : ∀ c o, cs.lookup c = some o → H c = some (CellX c o)) : Env0 P w K mg base A outer s (untC cs H) := by
  have nn : ∀ b, H b = none → untC cs H b = none := fun b n => by
    cases q : cs.lookup b with
    | some o => exact unt_in q
    | none => rw [unt_out q]; exact n
  exact ⟨e0.frames, e0.mod, fun b o e => ⟨(e0.bs b o e).1, nn b (e0.bs b o e).2⟩, e0.bsz, e0.funs, fun b hb => nn b (e0.frf b hb), hok_unt e0.hok hc, e0.bare⟩
/-- the wish behind the body: the cells are not tracked there; they are tracked again behind it -/
abbrev endC (F : CF) (cs : Cells) (Q : VK) : VK := fun v H' => (∀ c o, cs.lookup c = some o → H' c = none) → Q v (trkC cs H')
section
variable {P : Program} {w : World} {K : PySem.W.Frag} {mg : Str → Option Value} {base : Heap} {N ps fr : List Str} {F : CF} {f : Addr} {k : Nat} {sp : Sp} {ws : List (Option V)} {cs : Cells}
theorem back_C {A : Around} {outer : List Env} {s s' : Shared} {H : Hp} {Q : VK} {E : XK} {σ' : L2.St} {H' : Hp} {v : V} {u : Value} (C : CellsC F fr ws cs) (hc : ∀ c o, cs.lookup c = some o → H c = some (CellX c o)) (e0 : Env0 P w K mg base A outer s H)
    (all : ∀ c o, cs.lookup c = some o → ∃ y, F.cl.lookup y = some c)
    (J : Inv (ncx CXN P w K mg base N F.nf f A outer s (untC cs H) E) [] σ' H' s') (rv : L2.RelV v u) (q : endC F cs Q v H') : CE outer P w H s Q u s' := by
  have un : Un (frs outer) [] (untC cs H) H' s.heap s'.heap := J.base
  have none' : ∀ c o, cs.lookup c = some o → H' c = none := fun c o e => by
    obtain ⟨y, hy⟩ := all c o e
    exact J.freeC y c hy
  refine ⟨v, trkC cs H', J.os, J.bare, un_trk un hc, hok_trk J.hok fun c o e => ⟨none' c o e, ?_⟩, rv, q none'⟩
  have g := cellx_at e0.hok (hc c o e)
  refine un.keep c o g (unt_in e) (fun z => ?_) (by simp)
  have z2 := e0.frf c z
  rw [hc c o e] at z2
  cases z2
/-- THE RULE: a lambda by its body -/
theorem runs_expr {body : Expr} (S : NScope N ps fr F.scope) (hbd : F.body = .expr body) (hb : ∀ (doc pm ctv : Value) (us : List Value), us.length = ps.length → bindArgs (F.fd doc pm ctv) ⟨us, []⟩ = pure (ps.zip us)) (C : CellsC F fr ws cs) (all : ∀ c o, cs.lookup c = some o → ∃ y, F.cl.lookup y = some c)
    (len : ∀ vs H Q E, sp vs H Q E → vs.length = ps.length)
    (hbody : ∀ (A : Around) (outer : List Env) (s : Shared) (H : Hp) (vs : List V) (Q : VK) (E : XK), Room k (A.deeper (envC F f s.heap.objs.size)) → H f = some (CFO f F) → (∀ c o, cs.lookup c = some o → H c = some (CellX c o)) → sp vs H Q E →
      ∃ t, PE (ncx CXN P w K mg base N F.nf f A outer s (untC cs H) E) body t ∧ t (startF N vs ws) (untC cs H) (endC F cs Q)) :
    Runs P w K mg base (k + 1) f F cs sp := by
  refine ⟨fun A outer s H us vs Q E hr e0 hf hcode hc r hsp => ?_⟩
  have hl := len _ _ _ _ hsp
  have lim : s.heap.NoLimit := e0.mod.nolimit.keeps fun b o e => (e0.bs b o e).1
  obtain ⟨od, sl, doc, pm, ctv, ho⟩ := cfo_at e0.hok hf
  have e1 : Env0 P w K mg base A outer s (untC cs H) := env0_unt e0 hc
  refine PySem.W.kla_callFunE (o := ⟨.type "function", od, .func (F.fd doc pm ctv), sl⟩) (fd := F.fd doc pm ctv) hr.depth ho rfl S.co S.gen hbd (codeO_at e0.hok hcode) ?_
  rw [hb doc pm ctv us (by rw [← r.length]; exact hl)]
  refine wpAny_pure (wpAny_newFunctionEnv S.nocell (fun ⟨n, _⟩ hy => S.par n (List.of_mem_zip hy).1) (fun h₁ hns hsb => ⟨lim.fresh _ hsb, ?_⟩) S.kind)
  show codeAny _ _ (.expr body (envC F f s.heap.objs.size)) _ _
  have kp : ∀ b o, s.heap.get? b = some o → h₁.get? b = some o := fun b o e => hsb.extBut b o (Nat.ne_of_lt (Heap.lt_size e)) (Heap.get?_push_of_some _ e)
  obtain ⟨t, ht, hq⟩ := hbody A outer s H vs Q E (hr.deeper _) hf hc hsp
  have I : Inv (ncx CXN P w K mg base N F.nf f A outer s (untC cs H) E) [] (startF N vs ws) (untC cs H) { s with heap := h₁, toks := s.toks + (ps.zip us).length } := inv_startN S hr.hd e1 hl r (C.at_ e0.hok hc) hns kp
  refine PySem.W.kla_codeExpr (wpAny_mono (ht.run [] _ (startF N vs ws) _ _ I hq) (fun u s' hs => ?_) fun e s' hs => hs)
  obtain ⟨v, H', J, rv, q⟩ := hs
  exact back_C C hc e0 all J rv q
/-- THE RULE: a nested def by its body -/
theorem runs_stmts {body : List Stmt} (S : NScope N ps fr F.scope) (hbd : F.body = .stmts body) (hb : ∀ (doc pm ctv : Value) (us : List Value), us.length = ps.length → bindArgs (F.fd doc pm ctv) ⟨us, []⟩ = pure (ps.zip us)) (C : CellsC F fr ws cs) (all : ∀ c o, cs.lookup c = some o → ∃ y, F.cl.lookup y = some c)
    (len : ∀ vs H Q E, sp vs H Q E → vs.length = ps.length)
    (hbody : ∀ (A : Around) (outer : List Env) (s : Shared) (H : Hp) (vs : List V) (Q : VK) (E : XK), Room k (A.deeper (envC F f s.heap.objs.size)) → H f = some (CFO f F) → (∀ c o, cs.lookup c = some o → H c = some (CellX c o)) → sp vs H Q E →
      ∃ t, PSs (ncx CXN P w K mg base N F.nf f A outer s (untC cs H) E) body t ∧ t { nx := fun _ H' => endC F cs Q .non H', rt := endC F cs Q } (startF N vs ws) (untC cs H)) :
    Runs P w K mg base (k + 1) f F cs sp := by
  refine ⟨fun A outer s H us vs Q E hr e0 hf hcode hc r hsp => ?_⟩
  have hl := len _ _ _ _ hsp
  have lim : s.heap.NoLimit := e0.mod.nolimit.keeps fun b o e => (e0.bs b o e).1
  obtain ⟨od, sl, doc, pm, ctv, ho⟩ := cfo_at e0.hok hf
  have e1 : Env0 P w K mg base A outer s (untC cs H) := env0_unt e0 hc
  refine codeAny_call_function (o := ⟨.type "function", od, .func (F.fd doc pm ctv), sl⟩) (fd := F.fd doc pm ctv) hr.depth ho rfl S.co S.gen hbd (codeO_at e0.hok hcode) ?_
  rw [hb doc pm ctv us (by rw [← r.length]; exact hl)]
  refine wpAny_pure (wpAny_newFunctionEnv S.nocell (fun ⟨n, _⟩ hy => S.par n (List.of_mem_zip hy).1) (fun h₁ hns hsb => ⟨lim.fresh _ hsb, ?_⟩) S.kind)
  show codeAny _ _ (.func body (envC F f s.heap.objs.size)) _ _
  refine codeAny_func ?_
  have kp : ∀ b o, s.heap.get? b = some o → h₁.get? b = some o := fun b o e => hsb.extBut b o (Nat.ne_of_lt (Heap.lt_size e)) (Heap.get?_push_of_some _ e)
  obtain ⟨t, ht, hq⟩ := hbody A outer s H vs Q E (hr.deeper _) hf hc hsp
  have I : Inv (ncx CXN P w K mg base N F.nf f A outer s (untC cs H) E) [] (startF N vs ws) (untC cs H) { s with heap := h₁, toks := s.toks + (ps.zip us).length } := inv_startN S hr.hd e1 hl r (C.at_ e0.hok hc) hns kp
  refine wpAny_mono (ht.run [] _ (startF N vs ws) _ _ I hq) (fun fl s' hs => ?_) fun e s' hs => hs
  cases fl with
  | ret u =>
    obtain ⟨v, σ', H', J, rv, q⟩ := hs
    exact back_C C hc e0 all J rv q
  | next =>
    obtain ⟨σ', H', J, q⟩ := hs
    exact back_C (v := V.non) (u := Value.none) C hc e0 all J rfl q
  | brk =>
    obtain ⟨_, _, _, q⟩ := hs
    exact False.elim q
  | cont =>
    obtain ⟨_, _, _, q⟩ := hs
    exact False.elim q
end
end Bz
end
section
set_option Elab.async false
set_option linter.all false
set_option maxRecDepth 100000
set_option maxHeartbeats 2000000
namespace Bz
open PySem PySem.Spec PyProof.Rows L2 LamX NdefX
section
variable {X : Cx} {pins : List (Addr × Obj)} {σ : L2.St} {H : Hp} {s : Shared}
theorem inv_cfn {F : CF} {o : Obj} {t' : Nat} {doc pm ctv : Value} (I : Inv X pins σ H s) (ho : o = { cls := .type "function", data := .func (F.fd doc pm ctv) }) :
    Inv X pins σ (upd H s.heap.objs.size (CFO s.heap.objs.size F)) { s with heap := s.heap.push o, toks := t' } := by
  subst ho
  refine I.laid (a := s.heap.objs.size) (fun b u e => Heap.get?_push_of_some _ e) (Nat.le_refl _) ?_
  have e : (s.heap.push ({ cls := .type "function", data := .func (F.fd doc pm ctv) } : Obj)).get? s.heap.objs.size = some ({ cls := .type "function", data := .func (F.fd doc pm ctv) } : Obj) := Heap.get?_push_size _ rfl
  exact ⟨⟨_, _, doc, pm, ctv, e⟩, ⟨_, e⟩, fun h1 h2 ⟨od, sl, d, p, t, z⟩ st => ⟨od, sl, d, p, t, st _ z⟩⟩
/-- a lambda is made: its code object is new, or found in the table -/
theorem lam_makeC {T : List NTab} {nm : Nat → Nat → Str} {c P : Addr} {params : Arguments} {body : Expr} {scope : Scope} {pos : Pos} {E : Value → Shared → Prop} {Q : Value → Shared → Prop} (I : Inv X pins σ H s) (TB : TabB X.base X.mg c P) (hcode : X.env.code = .ref c)
    (hm : (P, nm) ∈ T) (hn : nm pos.line pos.col = X.env.qual ++ "<lambda>") (hu : ∀ p ∈ T, p.1 = P → p.2 = nm) (hT : TabsN T H) (hdef : defaultsOf params X.env = ([], [])) (hfree : ∀ y ∈ scope.names, y.2 = .free → ∃ c, X.env.cells.lookup y.1 = some c)
    (h : ∀ (f c' : Addr) (H1 : Hp) (s' : Shared), Inv X pins σ H1 s' → ExtN H H1 → (∀ b, H1 b = Option.none → H b = Option.none) → TabsN T H1 → H f = none → H1 f = some (CFO f ⟨"<lambda>", X.env.qual ++ "<lambda>", params, .expr body, scope, cloFrom X.env.cells scope.names [], c'⟩) → H1 c' = some (CodeO c' (X.env.qual ++ "<lambda>")) → Q (.ref f) s') :
    wpAny (model X.prog X.w) X.A (eval (.Lambda params body scope pos) X.env) Q E s := by
  obtain ⟨ps, hP, ht, ha⟩ := (show TabN H P nm from hT _ hm)
  refine PySem.W.kla_eval hdef ?_
  have bP : s.heap.BuiltinsAt X.mg P := TB.bm.keeps I.bk
  have hP' : s.heap.get? P = some { cls := .none, data := .fields ps } := I.hok P _ hP
  cases hc : codeAmong pos ps.toList with
  | none =>
    refine PySem.W.kla_makeFunction (mg := X.mg) (c := c) (P := P) (ps := ps) (closure_ok hfree) I.ok.glob (I.mod.glob.keeps I.bk) hcode (TB.code.keeps I.bk) hP' ht hc TB.gP bP fun c' ctv h' tk hx hge hlt hrec htb => ?_
    obtain ⟨c2, oc, vs, t, e2, hoc, hd, hv⟩ := hrec
    cases e2
    have nC : H c' = none := I.hok.fresh hge
    have I1 := inv_table (t' := tk) (more := #[rawInt pos.line, rawInt pos.col, .ref c']) (h' := h') I hP (fun b o hb e => hx b o hb e) htb hge ⟨oc, vs, t, hoc, hd, hv⟩
    have hE : ExtN H (upd (upd H P (.tbl (ps ++ #[rawInt pos.line, rawInt pos.col, .ref c']))) c' (CodeO c' (X.env.qual ++ "<lambda>"))) := fun b o e n => by
      rw [upd_ne (ne_of_none e nC), upd_ne (fun z => n ps (Option.some.inj (e.symm.trans (by rw [z]; exact hP))))]
      exact e
    have eL : (ps ++ #[rawInt pos.line, rawInt pos.col, .ref c']).toList = ps.toList ++ [rawInt pos.line, rawInt pos.col, .ref c'] := by simp
    have T1 : TabsN T (upd (upd H P (.tbl (ps ++ #[rawInt pos.line, rawInt pos.col, .ref c']))) c' (CodeO c' (X.env.qual ++ "<lambda>"))) := fun p hp => by
      by_cases hb : p.1 = P
      · rw [hu p hp hb, hb]
        refine ⟨_, by rw [upd_ne (ne_of_none hP nC), upd_same], by rw [eL]; exact PySem.TriplesOk_snoc _ _ _ _ ht, fun p' cv hcv => ?_⟩
        rw [eL] at hcv
        rcases among_app2 _ ht hcv with z | ⟨z, z1, z2⟩
        · obtain ⟨c0, e1, e2⟩ := ha p' cv z
          exact ⟨c0, e1, hE _ _ e2 codeO_ne⟩
        · refine ⟨c', z, ?_⟩
          rw [← z1, ← z2, hn]
          exact upd_same
      · obtain ⟨ps', a1, a2, a3⟩ := hT p hp
        refine ⟨ps', by rw [upd_ne (ne_of_none a1 nC), upd_ne hb]; exact a1, a2, fun p' cv hcv => ?_⟩
        obtain ⟨c0, e1, e2⟩ := a3 p' cv hcv
        exact ⟨c0, e1, hE _ _ e2 codeO_ne⟩
    have nF := I1.hok.fresh (Nat.le_refl _)
    have I2 := inv_cfn (F := ⟨"<lambda>", X.env.qual ++ "<lambda>", params, .expr body, scope, cloFrom X.env.cells scope.names [], c'⟩) (t' := tk) (doc := .none) (pm := (X.mg "__name__").getD .none) (ctv := ctv) I1 rfl
    refine h h'.objs.size c' _ _ I2 (fun b o e n => ?_) (fun b e => upd_none (upd_none (upd_none e))) (T1.ext fun b o e => ?_) (I.hok.fresh (Nat.le_trans hge (Nat.le_of_lt hlt))) upd_same ?_
    · have e1 := hE b o e n
      exact (upd_ne (ne_of_none e1 nF)).trans e1
    · exact (upd_ne (ne_of_none e nF)).trans e
    · exact (upd_ne (Nat.ne_of_lt hlt)).trans upd_same
  | some cv =>
    obtain ⟨c', e, hco⟩ := ha pos cv hc
    subst e
    rw [hn] at hco
    refine PySem.W.kla_makeFunctionHit (mg := X.mg) (c := c) (P := P) (ps := ps) (closure_ok hfree) I.ok.glob (I.mod.glob.keeps I.bk) hcode (TB.code.keeps I.bk) hP' ht hc bP fun ctv h' tk hx hsz => ?_
    have I1 : Inv X pins σ H { s with heap := h', toks := tk } := I.kept hx
    have nF : H h'.objs.size = none := I1.hok.fresh (Nat.le_refl _)
    have I2 := inv_cfn (F := ⟨"<lambda>", X.env.qual ++ "<lambda>", params, .expr body, scope, cloFrom X.env.cells scope.names [], c'⟩) (t' := tk) (doc := .none) (pm := (X.mg "__name__").getD .none) (ctv := ctv) I1 rfl
    refine h h'.objs.size c' _ _ I2 (fun b o e n => ?_) (fun b e => upd_none e) (hT.ext fun b o e => ?_) nF upd_same ?_
    · exact (upd_ne (ne_of_none e nF)).trans e
    · exact (upd_ne (ne_of_none e nF)).trans e
    · exact (upd_ne (ne_of_none hco nF)).trans hco
end
/-- lambda ..: .. -/
def tLamC (T : List NTab) (mk : Addr → CF) : TE := fun σ H Q => TabsN T H ∧ ∀ (f c' : Addr) (H1 : Hp), ExtN H H1 → (∀ b, H1 b = Option.none → H b = Option.none) → TabsN T H1 → H f = none → H1 f = some (CFO f (mk c')) → H1 c' = some (CodeO c' (mk c').qual) → Q (.ref f) H1
/-- def name(..): .. -/
def tDefC (T : List NTab) (i : Nat) (mk : Addr → CF) : TS := fun D σ H => TabsN T H ∧ ∀ (f c' : Addr) (H1 : Hp), ExtN H H1 → (∀ b, H1 b = Option.none → H b = Option.none) → TabsN T H1 → H f = none → H1 f = some (CFO f (mk c')) → H1 c' = some (CodeO c' (mk c').qual) → D.nx (σ.set i (some (.ref f))) H1
section
variable {X : Cx}
theorem pe_lamC {T : List NTab} {nm : Nat → Nat → Str} {c P : Addr} {params : Arguments} {body : Expr} {scope : Scope} {pos : Pos} (TB : TabB X.base X.mg c P) (hcode : X.env.code = .ref c)
    (hm : (P, nm) ∈ T) (hn : nm pos.line pos.col = X.env.qual ++ "<lambda>") (hu : ∀ p ∈ T, p.1 = P → p.2 = nm) (hdef : defaultsOf params X.env = ([], [])) (hfree : ∀ y ∈ scope.names, y.2 = .free → X.env.scope.names.lookup y.1 = some .cell ∨ X.env.scope.names.lookup y.1 = some .free) :
    PE X (.Lambda params body scope pos) (tLamC T fun c' => ⟨"<lambda>", X.env.qual ++ "<lambda>", params, .expr body, scope, cloFrom X.env.cells scope.names [], c'⟩) := by
  refine ⟨fun pins s σ H Q I h => ?_⟩
  obtain ⟨hT, h⟩ := h
  have hfr : ∀ y ∈ scope.names, y.2 = .free → ∃ c, X.env.cells.lookup y.1 = some c := fun y hy e => (hfree y hy e).elim (fun z => I.ok.has _ (.inl z)) fun z => I.ok.has _ (.inr z)
  exact lam_makeC I TB hcode hm hn hu hT hdef hfr fun f c' H1 s' I1 eN nn T1 f0 f1 c1 => ⟨.ref f, H1, I1, rfl, h f c' H1 eN nn T1 f0 f1 c1⟩
theorem ps_defC {T : List NTab} {nm : Nat → Nat → Str} {c P : Addr} {name : Str} {params : Arguments} {body : List Stmt} {scope : Scope} {pos : Pos} {i : Nat} (TB : TabB X.base X.mg c P) (hcode : X.env.code = .ref c) (hm : (P, nm) ∈ T) (hn : nm pos.line pos.col = X.env.qual ++ name) (hu : ∀ p ∈ T, p.1 = P → p.2 = nm)
    (hfree : ∀ y ∈ scope.names, y.2 = .free → X.env.scope.names.lookup y.1 = some .cell ∨ X.env.scope.names.lookup y.1 = some .free) (hd0 : params.defaults = []) (hk0 : params.kw_defaults = []) (ha : annTrees params none X.env = [])
    (hN : X.N.Nodup) (hi : X.N[i]? = some name) (hx : Loc X.env.scope name) (hf : X.fn name = true ∨ X.env.scope.names.lookup name = some .local) :
    PS X (.FunctionDef name params body [] none [] scope none name pos) (tDefC T i fun c' => ⟨name, X.env.qual ++ name, params, .stmts body, scope, cloFrom X.env.cells scope.names [], c'⟩) := by
  refine ⟨fun pins s σ H D I h => ?_⟩
  obtain ⟨hT, h⟩ := h
  exact (ps_ndefM TB hcode hm hn hu hfree hd0 hk0 ha hN hi hx hf).run pins s σ H D I ⟨hT, fun f c' H1 eN nn T1 f0 f1 c1 => h f c' H1 eN nn T1 f0 f1 c1⟩
end
/-! ### a call of a def while the frame's own cells are told to it -/
def mkC (cl : List (Str × Addr)) (ys : List Str) (ob : Addr → Obj) : Cells := ys.filterMap fun y => (cl.lookup y).map fun c => (c, ob c)
theorem mkC_look {cl : List (Str × Addr)} {ob : Addr → Obj} {c : Addr} {o : Obj} : ∀ {ys : List Str}, (mkC cl ys ob).lookup c = some o → o = ob c ∧ ∃ y ∈ ys, cl.lookup y = some c := by
  intro ys
  induction ys with
  | nil => intro h; cases h
  | cons y r ih =>
    intro h
    unfold mkC at h
    rw [List.filterMap_cons] at h
    cases e : cl.lookup y with
    | none =>
      rw [e] at h
      obtain ⟨h1, z, h2, h3⟩ := ih h
      exact ⟨h1, z, List.mem_cons_of_mem _ h2, h3⟩
    | some d =>
      rw [e] at h
      have h' : List.lookup c ((d, ob d) :: mkC cl r ob) = some o := h
      rw [List.lookup_cons] at h'
      cases q : (c == d) with
      | true =>
        rw [q] at h'
        have z := beq_iff_eq.mp q
        subst z
        exact ⟨(Option.some.inj h').symm, y, List.mem_cons_self, e⟩
      | false =>
        rw [q] at h'
        obtain ⟨h1, z, h2, h3⟩ := ih h'
        exact ⟨h1, z, List.mem_cons_of_mem _ h2, h3⟩
theorem mkC_has {cl : List (Str × Addr)} {ob : Addr → Obj} {c : Addr} {y : Str} : ∀ {ys : List Str}, y ∈ ys → cl.lookup y = some c → (mkC cl ys ob).lookup c = some (ob c) := by
  intro ys
  induction ys with
  | nil => intro h; cases h
  | cons z r ih =>
    intro h e
    unfold mkC
    rw [List.filterMap_cons]
    cases q : cl.lookup z with
    | none =>
      rcases List.mem_cons.mp h with h | h
      · rw [h, q] at e; cases e
      · exact ih h e
    | some d =>
      show List.lookup c ((d, ob d) :: mkC cl r ob) = some (ob c)
      rw [List.lookup_cons]
      cases q2 : (c == d) with
      | true =>
        have z := beq_iff_eq.mp q2
        subst z
        rfl
      | false =>
        rcases List.mem_cons.mp h with h | h
        · rw [h, q] at e
          cases e
          simp at q2
        · exact ih h e
abbrev keysOf (cl : List (Str × Addr)) : List Str := cl.map (·.1)
theorem key_of {cl : List (Str × Addr)} {y : Str} {c : Addr} (h : cl.lookup y = some c) : y ∈ keysOf cl := List.mem_map.mpr ⟨(y, c), PySem.mem_of_lookup h, rfl⟩
/-- the running frame's cells hold what its names do -/
structure Own (X : Cx) (σ : L2.St) (ob : Addr → Obj) : Prop where
  cell : ∀ y c, X.env.cells.lookup y = some c → ∃ v, (ob c).data = .cell v ∧ ∀ (i : Nat) w, X.N[i]? = some y → σ[i]? = some (some w) → (X.env.scope.names.lookup y = some .cell ∨ X.env.scope.names.lookup y = some .free) → ∃ u, v = some u ∧ L2.RelV w u
  inj : ∀ x y c, X.env.cells.lookup x = some c → X.env.cells.lookup y = some c → x = y
  has : ∀ x, (X.env.kindOf x = some .cell ∨ X.env.kindOf x = some .free) → ∃ c, X.env.cells.lookup x = some c
abbrev ownC (X : Cx) (ob : Addr → Obj) : Cells := mkC X.env.cells (keysOf X.env.cells) ob
theorem own_of {X : Cx} {pins : List (Addr × Obj)} {σ : L2.St} {H : Hp} {s : Shared} (I : Inv X pins σ H s) : Own X σ fun c => (s.heap.get? c).getD default := by
  refine ⟨fun y c e => ?_, I.ok.inj, I.ok.has⟩
  obtain ⟨v, o, h1, h2⟩ := I.cell y c e
  refine ⟨v, by rw [h1]; exact h2, fun i w e1 e2 e3 => ?_⟩
  obtain ⟨m, hn, hl⟩ := I.loc
  obtain ⟨u, r, l⟩ := hl i y w e1 e2 (e3.elim (fun z => .inr (.inl z)) fun z => .inr (.inr z))
  rcases l with ⟨z, _⟩ | ⟨_, c', hc', o', g1, g2⟩
  · have z' : X.env.scope.names.lookup y = some .local := z
    rcases e3 with k | k <;> rw [k] at z' <;> cases z'
  · rw [e] at hc'
    cases hc'
    rw [h1] at g1
    cases g1
    rw [h2] at g2
    cases g2
    exact ⟨u, rfl, r⟩
/-- f(..): f is told the cells; behind it they must stand as they stood -/
def tCallT (X : Cx) (sp : Sp) (dvs : List V) (t : TA) : TE := fun σ H Q => t σ H fun vs H1 => ∀ ob : Addr → Obj, Own X σ ob → (∀ c o, (ownC X ob).lookup c = some o → H1 c = none) →
  sp (vs ++ dvs) (trkC (ownC X ob) H1) (fun v H' => (∀ c o, (ownC X ob).lookup c = some o → H' c = some (CellX c o)) ∧ Q v (untC (ownC X ob) H')) fun _ _ _ => False
section
variable {X : Cx} {k : Nat} {f : Addr} {fd : FuncData} {ps : List Str} {sp : Sp} {dvs : List V} {ds : List Value} {x : Str} {p pos : Pos} {e : Expr} {es : List Expr} {t : TA}
theorem pe_callT (hfn : ∀ y, X.fn y = true) (hstk : X.stack = X.env :: X.outer ∧ X.env.frame = some X.env.locals) (F : FnOk X.prog X.w X.K X.mg X.base CXN k f fd ps sp) (hr : Room k X.A) (hg : Gl X x) (hm : X.mg x = some (.ref f)) (hk : PySem.W.keepIn X.K (.ref f) = true) (hb : Binds X.K fd ps ds) (hd : Vals dvs ds)
    (ha : PA X (e :: es) t) (hdb : (x == ("__debug__" : Str)) = false := by decide) (he : starEach (e :: es) X.env = (false, eval e X.env) :: starEach es X.env := by rfl) (hpl : (backTo pos (starEach es X.env)).any (·.1) = false := by rfl) :
    PE X (.Call (.Name x p) (e :: es) [] pos) (tCallT X sp dvs t) := by
  refine ⟨fun pins s σ H Q I h => ?_⟩
  refine wpAny_Call_Name_kw (ld_glob I hg hm ?_ hdb)
  refine PySem.W.callWith_K (h₀ := X.base) I.ok.mod.kin hk (thn (ha.run pos pins s σ H _ I h) fun us s1 ⟨vs, H1, I1, r, q⟩ => ⟨I1.kIn, ?_⟩) he hpl
  obtain ⟨ob, hob⟩ : ∃ ob : Addr → Obj, ob = fun c => (s1.heap.get? c).getD default := ⟨_, rfl⟩
  have O : Own X σ ob := by rw [hob]; exact own_of I1
  have at_ : ∀ c o, (ownC X ob).lookup c = some o → H1 c = none ∧ s1.heap.get? c = some o := fun c o e => by
    obtain ⟨e1, y, _, e2⟩ := mkC_look e
    refine ⟨I1.freeC y c e2, ?_⟩
    obtain ⟨v, o', h1, h2⟩ := I1.cell y c e2
    rw [e1, hob]
    show s1.heap.get? c = some ((s1.heap.get? c).getD default)
    rw [h1] <;> rfl
  have q1 := q ob O fun c o e => (at_ c o e).1
  have nfr : ∀ b ∈ frs X.stack, (ownC X ob).lookup b = none := fun b hb => by
    cases z : (ownC X ob).lookup b with
    | none => rfl
    | some o =>
      obtain ⟨_, y, _, e2⟩ := mkC_look z
      rcases List.mem_cons.mp (I1.stkSub b hb) with e3 | e3
      · exact absurd e3 (I1.cne y b e2)
      · obtain ⟨_, o', h1, _⟩ := I1.ok.funs.mem e3
        exact absurd (Nat.lt_of_lt_of_le (Heap.lt_size h1) (I1.ok.cab y b (hfn y) e2)) (Nat.lt_irrefl _)
  have nb : ∀ b o, X.base.get? b = some o → (ownC X ob).lookup b = none := fun b o hb => by
    cases z : (ownC X ob).lookup b with
    | none => rfl
    | some o' =>
      obtain ⟨_, y, _, e2⟩ := mkC_look z
      exact absurd (Nat.lt_of_lt_of_le (Heap.lt_size hb) (Nat.le_trans I1.ok.bsz (I1.ok.cab y b (hfn y) e2))) (Nat.lt_irrefl _)
  have e0 : Env0 X.prog X.w X.K X.mg X.base X.A X.stack s1 (trkC (ownC X ob) H1) := by
    have e := I1.env0
    exact ⟨e.frames, e.mod, fun b o hb => ⟨(e.bs b o hb).1, by rw [trk_out (nb b o hb)]; exact (e.bs b o hb).2⟩, e.bsz, e.funs, fun b hb => by rw [trk_out (nfr b hb)]; exact e.frf b hb, hok_trk e.hok at_, e.bare⟩
  have r2 : Vals (vs ++ dvs) (us ++ ds) := r.append hd
  have hl : (us ++ ds).length = ps.length := by rw [← r2.length]; exact F.len _ _ _ _ q1
  refine wpAny_call (codeAny_mono (F.run X.A X.stack s1 (trkC (ownC X ob) H1) ⟨us, []⟩ (us ++ ds) (vs ++ dvs) _ _ hr e0 (hb s1 us I1.kIn hl) r2 q1) fun r s' hq => ?_)
  cases r with
  | error e => exact False.elim hq
  | ok fl =>
    cases fl with
    | ret u =>
      obtain ⟨v, H', os, bare, un, hok, rv, q2, q3⟩ := hq
      obtain ⟨hh, g, d, t, os'⟩ := s'
      obtain rfl : os' = s1.os := os
      have un2 := un_unt un at_ fun c o e => cellx_at hok (q2 c o e)
      have hok2 := hok_unt hok q2
      exact ⟨v, _, I1.call (h' := hh) (g' := g) (d' := d) (t' := t) (ch := []) un2 hok2 bare (fun b z => absurd z (by simp)), rv, q3⟩
    | next => exact False.elim hq
    | brk => exact False.elim hq
    | cont => exact False.elim hq
end
/-- what a function made by the running frame captured, told by the frame's names -/
theorem cellsC_of {X : Cx} {σ : L2.St} {ob : Addr → Obj} {F : CF} {fr : List Str} {js : List Nat} {nsc : Scope} (O : Own X σ ob) (hcl : F.cl = cloFrom X.env.cells nsc.names []) (hnd : ndefB X.env.scope nsc fr = true) (hjs : js.map (fun j => X.N[j]?) = fr.map some) :
    CellsC F fr (js.map (slotAt σ)) (mkC F.cl (keysOf F.cl) ob) ∧ (∀ c o, (mkC F.cl (keysOf F.cl) ob).lookup c = some o → ∃ y, F.cl.lookup y = some c) ∧ (∀ c o, (mkC F.cl (keysOf F.cl) ob).lookup c = some o → (ownC X ob).lookup c = some o) := by
  have hf : ∀ y ∈ nsc.names, y.2 = .free → ∃ c, X.env.cells.lookup y.1 = some c := fun y hy e => (ndef_free hnd y hy e).elim (fun z => O.has _ (.inl z)) fun z => O.has _ (.inr z)
  have sub : ∀ y c, F.cl.lookup y = some c → X.env.cells.lookup y = some c := fun y c e => by
    rw [hcl] at e
    exact clo_cm hf e
  refine ⟨⟨?_, fun y c e => ?_, fun x y c e1 e2 => O.inj x y c (sub x c e1) (sub y c e2), fun i y e => ?_, fun c o e => ?_⟩, fun c o e => ?_, fun c o e => ?_⟩
  · have q := congrArg List.length hjs
    rw [List.length_map, List.length_map] at q
    rw [List.length_map]
    exact q
  · obtain ⟨v, h1, _⟩ := O.cell y c (sub y c e)
    exact ⟨ob c, v, mkC_has (key_of e) e, h1⟩
  · have hy : y ∈ fr := List.mem_of_getElem? e
    have hk := ndef_free hnd (y, .free) (ndef_fr hnd y hy) rfl
    obtain ⟨c, hc⟩ := hf (y, .free) (ndef_fr hnd y hy) rfl
    have hc2 : F.cl.lookup y = some c := by
      rw [hcl]
      exact clo_has hf (ndef_fr hnd y hy) hc
    refine ⟨c, hc2, fun v ev => ?_⟩
    have e2 : (js.map fun j => X.N[j]?)[i]? = some (some y) := by
      rw [hjs, List.getElem?_map, e] <;> rfl
    rw [List.getElem?_map] at e2 ev
    cases ej : js[i]? with
    | none =>
      rw [ej] at e2
      cases e2
    | some j =>
      rw [ej] at e2 ev
      have hj : X.N[j]? = some y := Option.some.inj (show some (X.N[j]?) = some (some y) from e2)
      have ev2 : σ[j]? = some (some v) := slotAt_some (Option.some.inj (show some (slotAt σ j) = some (some v) from ev))
      obtain ⟨w, h1, h2⟩ := O.cell y c hc
      obtain ⟨u, h3, h4⟩ := h2 j v hj ev2 hk
      exact ⟨ob c, u, mkC_has (key_of hc2) hc2, by rw [h1, h3], h4⟩
  · obtain ⟨e1, y, _, e2⟩ := mkC_look e
    obtain ⟨v, h1, _⟩ := O.cell y c (sub y c e2)
    exact ⟨v, by rw [e1]; exact h1⟩
  · obtain ⟨_, y, _, e2⟩ := mkC_look e
    exact ⟨y, e2⟩
  · obtain ⟨e1, y, _, e2⟩ := mkC_look e
    rw [e1]
    exact mkC_has (key_of (sub y c e2)) (sub y c e2)
end Bz
end
section
set_option Elab.async false
set_option linter.all false
set_option maxRecDepth 100000
set_option maxHeartbeats 2000000
namespace Bz
open PySem PySem.Spec PyProof.Rows L2
/-! ### dicts by their kinds of keys: one set of rules -/
structure KI (S : Type) [DecidableEq S] where
  kv : S → Hp → V → Prop
  ho : Program → World → Addr → List (S × V) → HO
  keep : ∀ {k : S} {H H' : Hp} {v : V}, (∀ b xs, H b = some (.tup xs) → H' b = some (.tup xs)) → kv k H v → kv k H' v
  muts : ∀ P w a kvs, Mut (some (ho P w a kvs))
  nn : ∀ {k : S} {H : Hp} {v : V}, kv k H v → v ≠ .non
  nl : ∀ P w a kvs (xs : List V), ho P w a kvs ≠ .lst xs
  nt : ∀ P w a kvs (xs : List V), ho P w a kvs ≠ .tup xs
  nb : ∀ P w a kvs (xs : Array Value), ho P w a kvs ≠ .tbl xs
  new : ∀ (X : Cx) (pos : Pos), PE X (.Dict [] [] pos) fun _ H Q => ∀ p, H p = none → Q (.ref p) (upd H p (ho X.prog X.w p []))
  tyI : ∀ {X : Cx} {pins : List (Addr × Obj)} {σ : L2.St} {H : Hp} {s : Shared} {a : Addr} {kvs : List (S × V)}, Inv X pins σ H s → H a = some (ho X.prog X.w a kvs) → s.TypeIs (.ref a) "dict"
  getI : ∀ {X : Cx} {A : Around} {E : Value → Shared → Prop} {pins : List (Addr × Obj)} {σ : L2.St} {H : Hp} {s : Shared} {a : Addr} {y v : V} {u : Value} {kvs : List (S × V)} {k : S} {Q : Value → Shared → Prop}, A.units + 1 < cLine → Inv X pins σ H s →
    H a = some (ho X.prog X.w a kvs) → kv k H y → RelV y u → valV kvs k = some v → (∀ w' s', Inv X pins σ H s' → RelV v w' → Q w' s') → wpAny (model X.prog X.w) A (getItem (.ref a) u) Q E s
  inI : ∀ {X : Cx} {A : Around} {E : Value → Shared → Prop} {pins : List (Addr × Obj)} {σ : L2.St} {H : Hp} {s : Shared} {a : Addr} {y : V} {u : Value} {kvs : List (S × V)} {k : S} {Q : Value → Shared → Prop}, A.units + 1 < cLine → Inv X pins σ H s →
    H a = some (ho X.prog X.w a kvs) → kv k H y → RelV y u → (∀ s', Inv X pins σ H s' → Q (.bool (valV kvs k).isSome) s') → wpAny (model X.prog X.w) A (compareOp .In u (.ref a)) Q E s
  notI : ∀ {X : Cx} {A : Around} {E : Value → Shared → Prop} {pins : List (Addr × Obj)} {σ : L2.St} {H : Hp} {s : Shared} {a : Addr} {y : V} {u : Value} {kvs : List (S × V)} {k : S} {Q : Value → Shared → Prop}, A.units + 1 < cLine → Inv X pins σ H s →
    H a = some (ho X.prog X.w a kvs) → kv k H y → RelV y u → (∀ s', Inv X pins σ H s' → Q (.bool (!(valV kvs k).isSome)) s') → wpAny (model X.prog X.w) A (compareOp .NotIn u (.ref a)) Q E s
  setI : ∀ {X : Cx} {A : Around} {E : Value → Shared → Prop} {pins : List (Addr × Obj)} {σ : L2.St} {H : Hp} {s : Shared} {a : Addr} {y v : V} {u r : Value} {kvs : List (S × V)} {k : S} {Q : Unit → Shared → Prop}, A.units + 1 < cLine → Inv X pins σ H s →
    H a = some (ho X.prog X.w a kvs) → kv k H y → kvs.length < sizeLine → RelV y u → RelV v r → (∀ s', Inv X pins σ (upd H a (ho X.prog X.w a (putK kvs k v))) s' → Q () s') → wpAny (model X.prog X.w) A (setItem (.ref a) u r) Q E s
  lenI : ∀ {X : Cx} {pins : List (Addr × Obj)} {σ : L2.St} {H : Hp} {s : Shared} {a : Addr} {kvs : List (S × V)} {Q : VK}, Inv X pins σ H s → H a = some (ho X.prog X.w a kvs) → Q (.int (kvs.length : Nat)) H → wpAny (model X.prog X.w) X.A (call (.builtin "len") [.ref a]) (EP X pins σ Q) X.xe s
/-- keys that are ints -/
def intKey (k : Int) : Key := .inl k
def mapK {S T : Type} (f : S → T) (kvs : List (S × V)) : List (T × V) := kvs.map fun p => (f p.1, p.2)
theorem valV_mapK {S T : Type} [DecidableEq S] [DecidableEq T] {f : S → T} (hf : ∀ a b, f a = f b → a = b) (kvs : List (S × V)) (k : S) : valV (mapK f kvs) (f k) = valV kvs k := by
  unfold valV mapK
  induction kvs with
  | nil => rfl
  | cons p r ih =>
    rw [List.map_cons, List.find?_cons, List.find?_cons]
    by_cases h : p.1 = k
    · have h2 : decide ((f p.1, p.2).1 = f k) = true := decide_eq_true (by rw [h])
      rw [h2, decide_eq_true h]
      rfl
    · have h2 : decide ((f p.1, p.2).1 = f k) = false := decide_eq_false fun e => h (hf _ _ e)
      rw [h2, decide_eq_false h]
      exact ih
theorem putK_mapK {S T : Type} [DecidableEq S] [DecidableEq T] {f : S → T} (hf : ∀ a b, f a = f b → a = b) (kvs : List (S × V)) (k : S) (v : V) : putK (mapK f kvs) (f k) v = mapK f (putK kvs k v) := by
  have dd : ∀ a, decide (f a = f k) = decide (a = k) := fun a => by
    by_cases h : a = k
    · rw [decide_eq_true h, decide_eq_true (by rw [h])]
    · rw [decide_eq_false h, decide_eq_false fun e => h (hf _ _ e)]
  unfold putK mapK
  rw [List.any_map]
  have e1 : (kvs.any ((fun kv => decide (kv.1 = f k)) ∘ fun p => (f p.1, p.2))) = kvs.any fun kv => decide (kv.1 = k) := by
    congr 1
    funext p
    exact dd p.1
  rw [e1]
  split
  · rw [List.map_map, List.map_map]
    congr 1
    funext p
    show (if f p.1 = f k then (f p.1, v) else (f p.1, p.2)) = (f (if p.1 = k then (p.1, v) else p).1, (if p.1 = k then (p.1, v) else p).2)
    by_cases h : p.1 = k
    · rw [if_pos h, if_pos (by rw [h])]
    · rw [if_neg h, if_neg fun e => h (hf _ _ e)]
  · rw [List.map_append] <;> rfl
theorem len_mapK {S T : Type} (f : S → T) (kvs : List (S × V)) : (mapK f kvs).length = kvs.length := List.length_map ..
theorem inl_inj (a b : Int) (h : (Sum.inl a : Key) = Sum.inl b) : a = b := Sum.inl.inj h
def kI : KI Int where
  kv := fun k _ v => v = .int k
  ho := fun _ _ _ kvs => .dK (mapK Sum.inl kvs)
  keep := fun _ h => h
  muts := fun _ _ _ _ => True.intro
  nn := fun h => by rw [h]; intro z; cases z
  nl := fun _ _ _ _ _ z => nomatch z
  nt := fun _ _ _ _ _ z => nomatch z
  nb := fun _ _ _ _ _ z => nomatch z
  new := fun X pos => pe_dnewK
  tyI := fun I e => dict_typeIs (y := .int 0) I (.inl ⟨_, .inl 0, .inl e, rfl, rfl⟩)
  getI := fun hu I e hk ry hv h => by
    subst hk
    exact d_getItem hu I (.inl ⟨_, .inl _, .inl e, rfl, by rw [valV_mapK inl_inj, hv]⟩) ry h
  inI := fun {X A E pins σ H s a y u kvs k Q} hu I e hk ry h => by
    subst hk
    refine d_in (o := valV (mapK Sum.inl kvs) (Sum.inl k)) hu I (.inl ⟨_, .inl k, .inl e, rfl, rfl⟩) ry fun s' I' => ?_
    rw [valV_mapK inl_inj]
    exact h s' I'
  notI := fun {X A E pins σ H s a y u kvs k Q} hu I e hk ry h => by
    subst hk
    refine d_notIn (o := valV (mapK Sum.inl kvs) (Sum.inl k)) hu I (.inl ⟨_, .inl k, .inl e, rfl, rfl⟩) ry fun s' I' => ?_
    rw [valV_mapK inl_inj]
    exact h s' I'
  setI := fun {X A E pins σ H s a y v u r kvs k Q} hu I e hk hl ry rv h => by
    subst hk
    refine d_setItem hu I (.inl ⟨_, .inl k, e, rfl, by rw [len_mapK]; exact hl, rfl⟩) ry rv fun s' I' => h s' ?_
    rw [putK_mapK inl_inj] at I'
    exact I'
  lenI := fun {X pins σ H s a kvs Q} I e q => call_lenD pins s σ H [.ref a] [.ref a] Q I (.cons rfl .nil) ⟨a, _, rfl, e, by rw [len_mapK]; exact q⟩
/-- keys that are natural numbers -/
abbrev natK (n : Nat) : Key := Sum.inl (n : Int)
theorem natK_inj (a b : Nat) (h : natK a = natK b) : a = b := Int.ofNat.inj (Sum.inl.inj h)
def kN : KI Nat where
  kv := fun k _ v => v = .int (k : Nat)
  ho := fun _ _ _ kvs => .dK (mapK natK kvs)
  keep := fun _ h => h
  muts := fun _ _ _ _ => True.intro
  nn := fun h => by rw [h]; intro z; cases z
  nl := fun _ _ _ _ _ z => nomatch z
  nt := fun _ _ _ _ _ z => nomatch z
  nb := fun _ _ _ _ _ z => nomatch z
  new := fun X pos => pe_dnewK
  tyI := fun I e => dict_typeIs (y := .int 0) I (.inl ⟨_, .inl 0, .inl e, rfl, rfl⟩)
  getI := fun hu I e hk ry hv h => by
    subst hk
    exact d_getItem hu I (.inl ⟨_, .inl _, .inl e, rfl, by rw [valV_mapK natK_inj, hv]⟩) ry h
  inI := fun {X A E pins σ H s a y u kvs k Q} hu I e hk ry h => by
    subst hk
    refine d_in (o := valV (mapK natK kvs) (natK k)) hu I (.inl ⟨_, natK k, .inl e, rfl, rfl⟩) ry fun s' I' => ?_
    rw [valV_mapK natK_inj]
    exact h s' I'
  notI := fun {X A E pins σ H s a y u kvs k Q} hu I e hk ry h => by
    subst hk
    refine d_notIn (o := valV (mapK natK kvs) (natK k)) hu I (.inl ⟨_, natK k, .inl e, rfl, rfl⟩) ry fun s' I' => ?_
    rw [valV_mapK natK_inj]
    exact h s' I'
  setI := fun {X A E pins σ H s a y v u r kvs k Q} hu I e hk hl ry rv h => by
    subst hk
    refine d_setItem hu I (.inl ⟨_, natK k, e, rfl, by rw [len_mapK]; exact hl, rfl⟩) ry rv fun s' I' => h s' ?_
    rw [putK_mapK natK_inj] at I'
    exact I'
  lenI := fun {X pins σ H s a kvs Q} I e q => call_lenD pins s σ H [.ref a] [.ref a] Q I (.cons rfl .nil) ⟨a, _, rfl, e, by rw [len_mapK]; exact q⟩
/-- keys that are tuples of ints -/
theorem mapinl_inj (a b : List Int) (h : a.map (Sum.inl : Int → Key) = b.map Sum.inl) : a = b := List.map_inj_right (fun _ _ => inl_inj _ _) |>.mp h
theorem map_kV (k : List Int) : (k.map (Sum.inl : Int → Key)).map kV = k.map V.int := by
  rw [List.map_map]; rfl
def kT : KI (List Int) where
  kv := fun k H v => ∃ b, v = .ref b ∧ H b = some (.tup (k.map V.int))
  ho := fun _ _ _ kvs => .dT (mapK (fun k => k.map Sum.inl) kvs)
  keep := fun hk ⟨b, e, h⟩ => ⟨b, e, hk b _ h⟩
  muts := fun _ _ _ _ => True.intro
  nn := fun ⟨b, h, _⟩ => by rw [h]; intro z; cases z
  nl := fun _ _ _ _ _ z => nomatch z
  nt := fun _ _ _ _ _ z => nomatch z
  nb := fun _ _ _ _ _ z => nomatch z
  new := fun X pos => pe_dnewT
  tyI := fun I e => by
    obtain ⟨_, _, xs, _, dd⟩ := dt_rd I.hok (.inl e)
    exact dd.typeIs
  getI := fun hu I e hk ry hv h => by
    obtain ⟨b, ey, eb⟩ := hk
    exact d_getItem hu I (.inr ⟨_, _, b, .inl e, ey, by rw [map_kV]; exact eb, by rw [valV_mapK mapinl_inj, hv]⟩) ry h
  inI := fun {X A E pins σ H s a y u kvs k Q} hu I e hk ry h => by
    obtain ⟨b, ey, eb⟩ := hk
    refine d_in (o := valV (mapK (fun k => k.map Sum.inl) kvs) (k.map Sum.inl)) hu I (.inr ⟨_, _, b, .inl e, ey, by rw [map_kV]; exact eb, rfl⟩) ry fun s' I' => ?_
    rw [valV_mapK mapinl_inj]
    exact h s' I'
  notI := fun {X A E pins σ H s a y u kvs k Q} hu I e hk ry h => by
    obtain ⟨b, ey, eb⟩ := hk
    refine d_notIn (o := valV (mapK (fun k => k.map Sum.inl) kvs) (k.map Sum.inl)) hu I (.inr ⟨_, _, b, .inl e, ey, by rw [map_kV]; exact eb, rfl⟩) ry fun s' I' => ?_
    rw [valV_mapK mapinl_inj]
    exact h s' I'
  setI := fun {X A E pins σ H s a y v u r kvs k Q} hu I e hk hl ry rv h => by
    obtain ⟨b, ey, eb⟩ := hk
    refine d_setItem hu I (.inr ⟨_, _, b, e, ey, by rw [map_kV]; exact eb, by rw [len_mapK]; exact hl, rfl⟩) ry rv fun s' I' => h s' ?_
    rw [putK_mapK mapinl_inj] at I'
    exact I'
  lenI := fun {X pins σ H s a kvs Q} I e q => call_len_dT pins s σ H [.ref a] [.ref a] Q I (.cons rfl .nil) ⟨a, _, rfl, e, by rw [len_mapK]; exact q⟩
/-- keys that are truths -/
def boolKey (b : Bool) : Leaf := .num (if b = true then 1 else 0)
theorem boolKey_inj (a b : Bool) (h : boolKey a = boolKey b) : a = b := by
  cases a <;> cases b <;> first | rfl | (unfold boolKey at h; simp at h)
theorem boolKey_is (P : Program) (w : World) (b : Bool) : (leafKind P w).is (boolKey b) (.bool b) = true := by
  cases b <;> rfl
def bHO (P : Program) (w : World) (a : Addr) (kvs : List (Bool × V)) : HO := .ext fun h => kvs.length ≤ sizeLine ∧ (a == sysModules) = false ∧ ∃ vs, L2.KV (mapK boolKey kvs) vs ∧ h.DictOf (leafKind P w) a vs
theorem bHO_ok {P : Program} {w : World} {H : Hp} {h : Heap} {a : Addr} {kvs : List (Bool × V)} (h1 : kvs.length ≤ sizeLine) (h2 : (a == sysModules) = false) {vs : List (Leaf × Value)} (h3 : L2.KV (mapK boolKey kvs) vs) (h4 : h.DictOf (leafKind P w) a vs) : ObjOk P w H h a (bHO P w a kvs) := by
  obtain ⟨o, es, ep, e, r⟩ := id h4
  exact ⟨⟨h1, h2, vs, h3, h4⟩, ⟨o, e⟩, fun g1 g2 ⟨a1, a2, vs, a3, o, es, ep, e, r⟩ k => ⟨a1, a2, vs, a3, o, es, ep, k _ e, r⟩⟩
theorem bHO_at {P : Program} {w : World} {H : Hp} {h : Heap} {a : Addr} {kvs : List (Bool × V)} (ok : HOk P w H h) (e : H a = some (bHO P w a kvs)) : kvs.length ≤ sizeLine ∧ (a == sysModules) = false ∧ ∃ vs, L2.KV (mapK boolKey kvs) vs ∧ h.DictOf (leafKind P w) a vs := by
  obtain ⟨z, _, _⟩ := ok a _ e
  exact z
def kB : KI Bool where
  kv := fun k _ v => v = .bl k
  ho := bHO
  keep := fun _ h => h
  muts := fun _ _ _ _ => True.intro
  nn := fun h => by rw [h]; intro z; cases z
  nl := fun _ _ _ _ _ z => by unfold bHO at z; cases z
  nt := fun _ _ _ _ _ z => by unfold bHO at z; cases z
  nb := fun _ _ _ _ _ z => by unfold bHO at z; cases z
  new := fun X pos => ⟨fun pins s σ H Q I h =>
    wpAny_Dict_empty ⟨.ref s.heap.objs.size, _, I.laid (a := s.heap.objs.size) (o := bHO X.prog X.w s.heap.objs.size []) (t' := s.toks) (fun _ _ q => Heap.get?_push_of_some _ q) (Nat.le_refl _)
      (bHO_ok (Nat.zero_le _) (beq_eq_false_iff_ne.mpr (Ne.symm (Nat.ne_of_lt I.big))) (vs := []) .nil (Heap.DictOf.new s.heap)), rfl, h _ (I.hok.fresh (Nat.le_refl _))⟩⟩
  tyI := fun I e => by
    obtain ⟨_, _, vs, _, dd⟩ := bHO_at I.hok e
    exact dd.typeIs
  getI := fun {X A E pins σ H s a y v u kvs k Q} hu I e hk ry hv h => by
    subst hk
    cases ry
    obtain ⟨z, hd, vs, rel, dd⟩ := bHO_at I.hok e
    obtain ⟨w', hw, rw'⟩ := RelO.some_of (v := v) (o := valueAt vs (boolKey k)) (by rw [← hv, ← valV_mapK boolKey_inj]; exact rel.val _)
    exact wpAny_getItem_of (boolKey_is _ _ k) dd.mapOf hw (h w' _ (I.tok _) rw')
  inI := fun {X A E pins σ H s a y u kvs k Q} hu I e hk ry h => by
    subst hk
    cases ry
    obtain ⟨z, hd, vs, rel, dd⟩ := bHO_at I.hok e
    refine wpAny_in_of (boolKey_is _ _ k) hd dd.mapOf ?_
    rw [← (rel.val (boolKey k)).isSome_eq, valV_mapK boolKey_inj]
    exact h _ (I.tok _)
  notI := fun {X A E pins σ H s a y u kvs k Q} hu I e hk ry h => by
    subst hk
    cases ry
    obtain ⟨z, hd, vs, rel, dd⟩ := bHO_at I.hok e
    refine wpAny_notIn_of (boolKey_is _ _ k) hd dd.mapOf ?_
    rw [← (rel.val (boolKey k)).isSome_eq, valV_mapK boolKey_inj]
    exact h _ (I.tok _)
  setI := fun {X A E pins σ H s a y v u r kvs k Q} hu I e hk hl ry rv h => by
    subst hk
    cases ry
    obtain ⟨z, hd, vs, rel, dd⟩ := bHO_at I.hok e
    have hz : vs.length ≤ sizeLine := by rw [← rel.length, len_mapK]; exact z
    refine wpAny_setItem_pairs (hsz := hz) (boolKey_is _ _ k) dd fun h' dd' hs => h _ ?_
    have he : ∃ q, h'.get? a = some q := let ⟨q, _, _, hq, _⟩ := dd'; ⟨q, hq⟩
    have l2 : (putK kvs k v).length ≤ sizeLine := by have := length_putK kvs k v; omega
    refine d_write I (by rw [e]; exact True.intro) hs he (bHO_ok l2 hd ?_ dd')
    rw [← putK_mapK boolKey_inj]
    exact rel.put _ rv
  lenI := fun {X pins σ H s a kvs Q} I e q => by
    obtain ⟨z, hd, vs, rel, dd⟩ := bHO_at I.hok e
    have hl : kvs.length = vs.length := by rw [← len_mapK boolKey, rel.length]
    refine call_len_dict hd dd (by rw [← hl]; rw [sizeLine_eq] at z; omega) ?_
    rw [← hl]
    exact ⟨.int ((kvs.length : Nat) : Int), H, I.tok _, ⟨_, rfl⟩, q⟩
/-! ### the rules -/
section
variable {S : Type} [DecidableEq S] (ki : KI S) {X : Cx} {P : Program} {w : World} {i o value : Expr} {td ty tv : TE} {pos pos' : Pos}
def kGet (ki : KI S) (P : Program) (w : World) (td ty : TE) : TE := fun σ H Q => td σ H fun x H1 => ty σ H1 fun y H2 => ∃ a kvs k v, x = .ref a ∧ H2 a = some (ki.ho P w a kvs) ∧ ki.kv k H2 y ∧ valV kvs k = some v ∧ Q v H2
def kIn (ki : KI S) (P : Program) (w : World) (ty td : TE) : TE := fun σ H Q => ty σ H fun y H1 => td σ H1 fun x H2 => ∃ a kvs k, x = .ref a ∧ H2 a = some (ki.ho P w a kvs) ∧ ki.kv k H2 y ∧ Q (.bl (valV kvs k).isSome) H2
def kNotIn (ki : KI S) (P : Program) (w : World) (ty td : TE) : TE := fun σ H Q => ty σ H fun y H1 => td σ H1 fun x H2 => ∃ a kvs k, x = .ref a ∧ H2 a = some (ki.ho P w a kvs) ∧ ki.kv k H2 y ∧ Q (.bl (!(valV kvs k).isSome)) H2
def kPut (ki : KI S) (P : Program) (w : World) (td ty tv : TE) : TS := fun D σ H => tv σ H fun v H1 => td σ H1 fun x H2 => ty σ H2 fun y H3 => ∃ a kvs k, x = .ref a ∧ H3 a = some (ki.ho P w a kvs) ∧ ki.kv k H3 y ∧ kvs.length < sizeLine ∧ D.nx σ (upd H3 a (ki.ho P w a (putK kvs k v)))
def kLen (ki : KI S) (P : Program) (w : World) : List V → Hp → VK → Prop := fun xs H Q => ∃ a kvs, xs = [.ref a] ∧ H a = some (ki.ho P w a kvs) ∧ Q (.int (kvs.length : Nat)) H
theorem pe_kget (hX : X.prog = P ∧ X.w = w) (hu : X.A.units + 1 < cLine) (ho : PE X o td) (hi : PE X i ty) (hs : NoSl i) : PE X (.Subscript o i pos) (kGet ki P w td ty) := by
  obtain ⟨rfl, rfl⟩ := hX
  refine ⟨fun pins s σ H Q I h => ?_⟩
  refine subD_of PySem.F.slot_dict_getitem.lookup hs (thn (ho.run pins s σ H _ I h) fun u s1 ⟨x, H1, I1, rx, q1⟩ => thn (hi.run pins s1 σ H1 _ I1 q1) fun iv s2 ⟨y, H2, I2, ry, a, kvs, k, v, ex, e, hk, hv, q2⟩ => ?_)
  subst ex
  obtain rfl : u = Value.ref a := rx
  exact ⟨ki.tyI I2 e, ki.getI hu I2 e hk ry hv fun w' s3 I3 rw' => ⟨v, H2, I3, rw', q2⟩⟩
theorem pc_kin (hX : X.prog = P ∧ X.w = w) (hu : X.A.units + 1 < cLine) (hi : PE X i ty) (ho : PE X o td) : PC X .In i o (kIn ki P w ty td) := by
  obtain ⟨rfl, rfl⟩ := hX
  refine ⟨fun pins s σ H Q I h => ?_⟩
  refine thn (hi.run pins s σ H _ I h) fun iv s1 ⟨y, H1, I1, ry, q1⟩ => thn (ho.run pins s1 σ H1 _ I1 q1) fun u s2 ⟨x, H2, I2, rx, a, kvs, k, ex, e, hk, q2⟩ => ?_
  subst ex
  obtain rfl : u = Value.ref a := rx
  exact ki.inI hu I2 e hk ry fun s3 I3 => ⟨.bl _, H2, I3, rfl, q2⟩
theorem pc_knotin (hX : X.prog = P ∧ X.w = w) (hu : X.A.units + 1 < cLine) (hi : PE X i ty) (ho : PE X o td) : PC X .NotIn i o (kNotIn ki P w ty td) := by
  obtain ⟨rfl, rfl⟩ := hX
  refine ⟨fun pins s σ H Q I h => ?_⟩
  refine thn (hi.run pins s σ H _ I h) fun iv s1 ⟨y, H1, I1, ry, q1⟩ => thn (ho.run pins s1 σ H1 _ I1 q1) fun u s2 ⟨x, H2, I2, rx, a, kvs, k, ex, e, hk, q2⟩ => ?_
  subst ex
  obtain rfl : u = Value.ref a := rx
  exact ki.notI hu I2 e hk ry fun s3 I3 => ⟨.bl _, H2, I3, rfl, q2⟩
theorem ps_kput (hX : X.prog = P ∧ X.w = w) (hu : X.A.units + 1 < cLine) (ho : PE X o td) (hi : PE X i ty) (hv : PE X value tv) (hs : swapsWith value (some (.Subscript o i pos')) pos.line X.env = pure false) :
    PS X (.Assign [.Subscript o i pos'] value pos) (kPut ki P w td ty tv) := by
  obtain ⟨rfl, rfl⟩ := hX
  refine ⟨fun pins s σ H D I h => ?_⟩
  refine wpAny_Assign_Subscript (thn (hv.run pins s σ H _ I h) fun r s1 ⟨v, H1, I1, rv, q1⟩ => thn (ho.run pins s1 σ H1 _ I1 q1) fun u s2 ⟨x, H2, I2, rx, q2⟩ => thn (hi.run pins s2 σ H2 _ I2 q2) fun iv s3 ⟨y, H3, I3, ry, a, kvs, k, ex, e, hk, hl, q3⟩ => ?_) hs
  subst ex
  obtain rfl : u = Value.ref a := rx
  exact ki.setI hu I3 e hk hl ry rv fun s4 I4 => ⟨σ, _, I4, q3⟩
theorem call_klen (hX : X.prog = P ∧ X.w = w) : CallR X (.builtin "len") (kLen ki P w) := by
  obtain ⟨rfl, rfl⟩ := hX
  intro pins s σ H xs us Q I r h
  obtain ⟨a, kvs, rfl, ha, q⟩ := h
  obtain ⟨u, rfl, ru⟩ := vals1 r
  cases ru
  exact ki.lenI I ha q
end
/-! ### numbers as things come -/
section
variable {S : Type} [DecidableEq S]
/-- each thing with its place, from k on -/
def numsK (k : Nat) (l : List S) : List (S × V) := l.zipIdx.map fun p => (p.1, V.int ((p.2 + k : Nat) : Int))
theorem numsK_len (k : Nat) (l : List S) : (numsK k l).length = l.length := by unfold numsK; simp
theorem numsK_snoc (k : Nat) (l : List S) (x : S) : numsK k (l ++ [x]) = numsK k l ++ [(x, V.int ((l.length + k : Nat) : Int))] := by
  unfold numsK
  rw [List.zipIdx_append, List.map_append]
  simp
theorem valV_append (a b : List (S × V)) (x : S) : valV (a ++ b) x = (valV a x).or (valV b x) := by
  unfold valV
  rw [List.find?_append]
  cases a.find? fun kv => decide (kv.1 = x) <;> rfl
theorem numsK_none {k : Nat} {x : S} : ∀ {l : List S}, x ∉ l → valV (numsK k l) x = none := by
  intro l
  unfold valV
  intro h
  have : (numsK k l).find? (fun kv => decide (kv.1 = x)) = none := by
    rw [List.find?_eq_none]
    intro p hp
    unfold numsK at hp
    obtain ⟨q, hq, e⟩ := List.mem_map.mp hp
    have hm : q.1 ∈ l := by
      obtain ⟨y, i⟩ := q
      have := List.mem_zipIdx hq
      obtain ⟨_, h2, h3⟩ := this
      show y ∈ l
      rw [h3]
      exact List.getElem_mem _
    rw [← e]
    show ¬ decide (q.1 = x) = true
    intro z
    rw [of_decide_eq_true z] at hm
    exact h hm
  rw [this] <;> rfl
theorem numsK_some {k : Nat} {x : S} : ∀ (l : List S), l.Nodup → x ∈ l → valV (numsK k l) x = some (.int ((l.idxOf x + k : Nat) : Int)) := by
  have key : ∀ r : List S, (r.reverse).Nodup → x ∈ r.reverse → valV (numsK k r.reverse) x = some (.int ((r.reverse.idxOf x + k : Nat) : Int)) := by
    intro r
    induction r with
    | nil => intro _ h; simp at h
    | cons y r ih =>
      intro hn hx
      rw [List.reverse_cons] at hn hx ⊢
      rw [numsK_snoc, valV_append]
      by_cases h : x ∈ r.reverse
      · rw [ih ((List.nodup_append.mp hn).1) h, List.idxOf_append, if_pos h] <;> rfl
      · have e : x = y := by
          rcases List.mem_append.mp hx with z | z
          · exact absurd z h
          · exact List.mem_singleton.mp z
        subst e
        rw [numsK_none h, List.idxOf_append, if_neg h]
        show valV [(x, V.int _)] x = _
        unfold valV
        rw [List.find?_cons, decide_eq_true rfl, List.idxOf_cons_self, Nat.zero_add]
        rfl
  intro l
  have := key l.reverse
  rw [List.reverse_reverse] at this
  exact this
end
end Bz
end
section
set_option Elab.async false
set_option linter.all false
set_option maxRecDepth 100000
set_option maxHeartbeats 2000000
namespace Bz
open PySem PySem.Spec PyProof.Rows L2 LamX NdefX
/-! ### defs of the text by their promises -/
structure Df (K : PySem.W.Frag) (x qual : Str) (st : Stmt) (f : Addr) : Prop where
  ex : ∃ fd, FunD K x qual (defArgs st) (defBody st) (defScope st) [] [] f fd
structure Fn (P : Program) (w : World) (K : PySem.W.Frag) (mg : Str → Option Value) (base : Heap) (CX : CXT) (k : Nat) (x : Str) (ps : List Str) (sp : Sp) : Prop where
  ex : ∃ f fd, FnOk P w K mg base CX k f fd ps sp ∧ mg x = some (.ref f) ∧ PySem.W.keepIn K (.ref f) = true ∧ Binds K fd ps [] ∧ ∃ oc od osl, K.lookup f = some ⟨oc, od, .func fd, osl⟩
structure Mt (P : Program) (w : World) (K : PySem.W.Frag) (mg : Str → Option Value) (base : Heap) (CX : CXT) (k : Nat) (C : Addr) (m : Str) (ps : List Str) (sp : Sp) : Prop where
  ex : ∃ f fd, FnOk P w K mg base CX k f fd ps sp ∧ Meth K C m f ∧ Binds K fd ps []
structure Mkr (P : Program) (w : World) (K : PySem.W.Frag) (mg : Str → Option Value) (base : Heap) (CX : CXT) (k : Nat) (C : Addr) (x : Str) (ps : List Str) (sp : Sp) : Prop where
  ex : ∃ f fd, FnOk P w K mg base CX k f fd ps sp ∧ Mk K C f ∧ mg x = some (.ref C) ∧ Binds K fd ps []
abbrev HB (st : Stmt) (x qual : Str) (ps : List Str) : Prop := ∀ (kV doc pm : Value) (an : Option Addr) (cdv ct : Value) (us : List Value), us.length = ps.length → bindArgs (PySem.W.fnOf x qual (defArgs st) (defBody st) (defScope st) .none kV doc pm an cdv ct) ⟨us, []⟩ = pure (ps.zip us)
section
variable {P : Program} {w : World} {K : PySem.W.Frag} {mg : Str → Option Value} {base : Heap} {CX : CXT} {x qual : Str} {st : Stmt} {f C : Addr} {N ps : List Str} {k : Nat} {sp : Sp}
theorem Df.ok (D : Df K x qual st f) (S : FnScope N ps (defScope st)) (hb : HB st x qual ps) (len : ∀ vs H Q E, sp vs H Q E → vs.length = ps.length)
    (hbody : ∀ (cdv : Value) (A : Around) (outer : List Env) (s : Shared) (H : Hp) (vs : List V) (Q : VK) (E : XK), Room k (A.deeper (envOfC qual (defScope st) s.heap.objs.size f cdv)) → sp vs H Q E →
      ∃ t, PSs (cxOf CX P w K mg base N qual (defScope st) f cdv A outer s H E).nox (defBody st) t ∧ t { nx := fun _ H' => Q .non H', rt := Q } (start N vs) H) :
    ∃ fd, FnOk P w K mg base CX (k + 1) f fd ps sp ∧ PySem.W.keepIn K (.ref f) = true ∧ Binds K fd ps [] ∧ ∃ oc od osl, K.lookup f = some ⟨oc, od, .func fd, osl⟩ := by
  obtain ⟨fd, F⟩ := D.ex
  refine ⟨fd, F.ok S len (fun cdv A outer s H vs Q E hr h => let ⟨t, ht, hq⟩ := hbody cdv A outer s H vs Q E hr h; ⟨t, ht.nox, hq⟩), F.kp, ?_, ?_⟩
  rotate_left
  · obtain ⟨oc, od, dV, kV, doc, pm, an, cdv, ct, osl, rfl, lk, _⟩ := F.ex
    exact ⟨oc, od, osl, lk⟩
  refine fun s us X hl => ?_
  rw [List.append_nil] at hl ⊢
  exact F.bindsA hb s us hl
theorem Df.fn (D : Df K x x st f) (m : mg x = some (.ref f)) (S : FnScope N ps (defScope st)) (hb : HB st x x ps) (len : ∀ vs H Q E, sp vs H Q E → vs.length = ps.length)
    (hbody : ∀ (cdv : Value) (A : Around) (outer : List Env) (s : Shared) (H : Hp) (vs : List V) (Q : VK) (E : XK), Room k (A.deeper (envOfC x (defScope st) s.heap.objs.size f cdv)) → sp vs H Q E →
      ∃ t, PSs (cxOf CX P w K mg base N x (defScope st) f cdv A outer s H E).nox (defBody st) t ∧ t { nx := fun _ H' => Q .non H', rt := Q } (start N vs) H) : Fn P w K mg base CX (k + 1) x ps sp := by
  obtain ⟨fd, a, b, c, d⟩ := D.ok S hb len hbody
  exact ⟨f, fd, a, m, b, c, d⟩
theorem Df.mt (D : Df K x qual st f) (m : Meth K C x f) (S : FnScope N ps (defScope st)) (hb : HB st x qual ps) (len : ∀ vs H Q E, sp vs H Q E → vs.length = ps.length)
    (hbody : ∀ (cdv : Value) (A : Around) (outer : List Env) (s : Shared) (H : Hp) (vs : List V) (Q : VK) (E : XK), Room k (A.deeper (envOfC qual (defScope st) s.heap.objs.size f cdv)) → sp vs H Q E →
      ∃ t, PSs (cxOf CX P w K mg base N qual (defScope st) f cdv A outer s H E).nox (defBody st) t ∧ t { nx := fun _ H' => Q .non H', rt := Q } (start N vs) H) : Mt P w K mg base CX (k + 1) C x ps sp := by
  obtain ⟨fd, a, b, c, _⟩ := D.ok S hb len hbody
  exact ⟨f, fd, a, m, c⟩
theorem Df.mkr {cn : Str} (D : Df K x qual st f) (m : Mk K C f) (mc : mg cn = some (.ref C)) (S : FnScope N ps (defScope st)) (hb : HB st x qual ps) (len : ∀ vs H Q E, sp vs H Q E → vs.length = ps.length)
    (hbody : ∀ (cdv : Value) (A : Around) (outer : List Env) (s : Shared) (H : Hp) (vs : List V) (Q : VK) (E : XK), Room k (A.deeper (envOfC qual (defScope st) s.heap.objs.size f cdv)) → sp vs H Q E →
      ∃ t, PSs (cxOf CX P w K mg base N qual (defScope st) f cdv A outer s H E).nox (defBody st) t ∧ t { nx := fun _ H' => Q .non H', rt := Q } (start N vs) H) : Mkr P w K mg base CX (k + 1) C cn ps sp := by
  obtain ⟨fd, a, b, c, _⟩ := D.ok S hb len hbody
  exact ⟨f, fd, a, m, mc, c⟩
/-- a def that makes functions: its code object, the code's table -/
structure DfT (K : PySem.W.Frag) (base : Heap) (mg : Str → Option Value) (x qual : Str) (st : Stmt) (f Pt : Addr) : Prop where
  ex : ∃ fd c, FunD K x qual (defArgs st) (defBody st) (defScope st) [] [] f fd ∧ fd.code = .ref c ∧ TabB base mg c Pt
theorem DfT.fn {Pt : Addr} (D : DfT K base mg x x st f Pt) (m : mg x = some (.ref f)) (S : FnScope N ps (defScope st)) (hb : HB st x x ps) (len : ∀ vs H Q E, sp vs H Q E → vs.length = ps.length)
    (hbody : ∀ (c : Addr) (A : Around) (outer : List Env) (s : Shared) (H : Hp) (vs : List V) (Q : VK) (E : XK), TabB base mg c Pt → Room k (A.deeper (envOfC x (defScope st) s.heap.objs.size f (.ref c))) → sp vs H Q E →
      ∃ t, PSs (cxOf CX P w K mg base N x (defScope st) f (.ref c) A outer s H E).nox (defBody st) t ∧ t { nx := fun _ H' => Q .non H', rt := Q } (start N vs) H) : Fn P w K mg base CX (k + 1) x ps sp := by
  obtain ⟨fd, c, F, hc, TB⟩ := D.ex
  have hbind : Binds K fd ps [] := fun s us X hl => by
    rw [List.append_nil] at hl ⊢
    exact F.bindsA hb s us hl
  have kp := F.kp
  obtain ⟨oc, od, dV, kV, doc, pm, an, cdv, ct, osl, rfl, lk, hcd, _, _⟩ := F.ex
  have e : cdv = .ref c := hc
  subst e
  exact ⟨f, _, fn_of lk hcd S len (fun A outer s H vs Q E hr hsp => let ⟨t, ht, hq⟩ := hbody c A outer s H vs Q E TB hr hsp; ⟨t, ht.nox, hq⟩), m, kp, hbind, oc, od, osl, lk⟩
theorem Fn.imp {sp' : Sp} (G : Fn P w K mg base CX k x ps sp) (h : ∀ vs H Q E, sp' vs H Q E → sp vs H Q E) : Fn P w K mg base CX k x ps sp' := by
  obtain ⟨f, fd, a, b, c, d, e⟩ := G.ex
  exact ⟨f, fd, a.imp h, b, c, d, e⟩
end
section
variable {X : Cx} {CX : CXT} {k : Nat} {C : Addr} {x m : Str} {ps : List Str} {sp : Sp} {E : XK} {t : TA} {ta : TE} {e o : Expr} {es : List Expr} {p pos apos : Pos}
theorem pe_fn (G : Fn X.prog X.w X.K X.mg X.base CX k x ps sp) (hr : Room k X.A) (hg : Gl X x) (hx : Passes CX X E) (ha : PA X (e :: es) t)
    (hdb : (x == ("__debug__" : Str)) = false := by decide) (he : starEach (e :: es) X.env = (false, eval e X.env) :: starEach es X.env := by rfl) (hpl : (backTo pos (starEach es X.env)).any (·.1) = false := by rfl) :
    PE X (.Call (.Name x p) (e :: es) [] pos) (tCall sp [] E t) := by
  obtain ⟨f, fd, a, b, c, d, _⟩ := G.ex
  exact pe_call a hr hg b c d .nil hx ha hdb he hpl
theorem pe_fn0 (G : Fn X.prog X.w X.K X.mg X.base CX k x ps sp) (hr : Room k X.A) (hg : Gl X x) (hx : Passes CX X E) (hdb : (x == ("__debug__" : Str)) = false := by decide) :
    PE X (.Call (.Name x p) [] [] pos) (tCall sp [] E tNil) := by
  obtain ⟨f, fd, a, b, c, d, _⟩ := G.ex
  exact pe_call0 a hr hg b c d .nil hx hdb
theorem pe_fnT (G : Fn X.prog X.w X.K X.mg X.base CXN k x ps sp) (hfn : ∀ y, X.fn y = true) (hstk : X.stack = X.env :: X.outer ∧ X.env.frame = some X.env.locals) (hr : Room k X.A) (hg : Gl X x) (ha : PA X (e :: es) t)
    (hdb : (x == ("__debug__" : Str)) = false := by decide) (he : starEach (e :: es) X.env = (false, eval e X.env) :: starEach es X.env := by rfl) (hpl : (backTo pos (starEach es X.env)).any (·.1) = false := by rfl) :
    PE X (.Call (.Name x p) (e :: es) [] pos) (tCallT X sp [] t) := by
  obtain ⟨f, fd, a, b, c, d, _⟩ := G.ex
  exact pe_callT hfn hstk a hr hg b c d .nil ha hdb he hpl
theorem pe_mkr (G : Mkr X.prog X.w X.K X.mg X.base CX k C x ps sp) (hr : Room (k + 1) X.A) (hg : Gl X x) (hx : Passes CX X E) (ha : PA X (e :: es) t)
    (hdb : (x == ("__debug__" : Str)) = false := by decide) (he : starEach (e :: es) X.env = (false, eval e X.env) :: starEach es X.env := by rfl) (hpl : (backTo pos (starEach es X.env)).any (·.1) = false := by rfl) :
    PE X (.Call (.Name x p) (e :: es) [] pos) (tMake C sp [] E t) := by
  obtain ⟨f, fd, a, b, c, d⟩ := G.ex
  exact pe_make b a hr hg c d .nil hx ha hdb he hpl
theorem pe_mt {pl : Sem Bool} (G : Mt X.prog X.w X.K X.mg X.base CX k C m ps sp) (c : Cls X.K C) (hr : Room k X.A) (he : PE X o ta) (hx : Passes CX X E) (ha : PA X (e :: es) t)
    (hst : starEach (e :: es) X.env = (false, eval e X.env) :: starEach es X.env := by rfl) (hpl : (backTo pos (starEach es X.env)).any (·.1) = false := by rfl)
    (ht : eval (.Call (.Attribute o m apos) (e :: es) [] pos) X.env = (do
      let ov ← eval o X.env
      standAt apos.atName
      let (f, first) ← holding [ov] (getMethod ov m pl)
      callWith pos f first (backTo pos (starEach (e :: es) X.env)) (backToKw pos (keywordEach [] X.env))) := by rfl) :
    PE X (.Call (.Attribute o m apos) (e :: es) [] pos) (tMeth C m sp [] E ta t) := by
  obtain ⟨f, fd, a, b, d⟩ := G.ex
  exact pe_meth he c b a hr d .nil hx ha hst hpl ht
theorem pe_mt0 {pl : Sem Bool} (G : Mt X.prog X.w X.K X.mg X.base CX k C m ps sp) (c : Cls X.K C) (hr : Room k X.A) (he : PE X o ta) (hx : Passes CX X E)
    (ht : eval (.Call (.Attribute o m apos) [] [] pos) X.env = (do
      let ov ← eval o X.env
      standAt apos.atName
      let (f, first) ← holding [ov] (getMethod ov m pl)
      callWith pos f first (backTo pos (starEach [] X.env)) (backToKw pos (keywordEach [] X.env))) := by rfl) :
    PE X (.Call (.Attribute o m apos) [] [] pos) (tMeth C m sp [] E ta tNil) := by
  obtain ⟨f, fd, a, b, d⟩ := G.ex
  exact pe_meth0 he c b a hr d .nil hx ht
/-- keywords alone, named from the last parameter to the first -/
abbrev HBK (st : Stmt) (x qual : Str) (ps : List Str) : Prop := ∀ (kV doc pm : Value) (an : Option Addr) (cdv ct : Value) (us : List Value), us.length = ps.length → bindArgs (PySem.W.fnOf x qual (defArgs st) (defBody st) (defScope st) .none kV doc pm an cdv ct) ⟨[], ps.reverse.zip us⟩ = pure (ps.zip us.reverse)
def tCallR (sp : Sp) (E : XK) (tk : TA) : TE := fun σ H Q => tk σ H fun zs H1 => sp zs.reverse H1 Q E
theorem Vals.rev : ∀ {vs : List V} {us : List Value}, Vals vs us → Vals vs.reverse us.reverse
  | _, _, .nil => .nil
  | _, _, .cons r t => by
    rw [List.reverse_cons, List.reverse_cons]
    exact (Vals.rev t).append (.cons r .nil)
theorem pe_fnR {st : Stmt} {qual : Str} {f : Addr} {kws : List Keyword} {tk : TA} (G : Fn X.prog X.w X.K X.mg X.base CX k x ps sp) (D : ∃ fd, FunD X.K x qual (defArgs st) (defBody st) (defScope st) [] [] f fd) (hm : X.mg x = some (.ref f)) (hbk : HBK st x qual ps) (hr : Room k X.A) (hg : Gl X x) (hx : Passes CX X E) (hkw : PK X kws tk)
    (hks : (backToKw pos (keywordEach kws X.env)).filterMap (·.1) = ps.reverse := by rfl) (hall : (backToKw pos (keywordEach kws X.env)).all (·.1.isSome) = true := by rfl) (hdb : (x == ("__debug__" : Str)) = false := by decide)
    (hpl : ((backTo pos (starEach [] X.env)).any (·.1) || (backToKw pos (keywordEach kws X.env)).any (·.1.isNone)) = false := by rfl) : PE X (.Call (.Name x p) [] kws pos) (tCallR sp E tk) := by
  obtain ⟨f0, fd0, a, b, c, _, oc0, od0, osl0, lk0⟩ := G.ex
  obtain ⟨fd, FD⟩ := D
  obtain ⟨oc, od, dV, kV, doc, pm, an, cdv, ct, osl, efd, lk, hcd, hD, hK⟩ := FD.ex
  rw [hm] at b
  obtain rfl : f0 = f := by injection b with b; injection b with b; exact b.symm
  rw [lk] at lk0
  obtain rfl : fd0 = fd := by injection lk0 with z; injection z with _ _ z _; injection z with z; exact z.symm
  refine ⟨fun pins s σ H Q I h => ?_⟩
  refine wpAny_Call_Name_kw (ld_glob I hg hm ?_ hdb)
  refine PySem.W.callWith_KW0 (h₀ := X.base) I.ok.mod.kin c hall (thn (hkw.run pos pins s σ H _ I h) fun ws s2 ⟨zs, H2, I2, rz, q2⟩ => ⟨I2.kIn, ?_⟩) hpl
  rw [hks]
  have hl : zs.reverse.length = ps.length := a.len _ _ _ _ q2
  have r2 : Vals zs.reverse ws.reverse := Vals.rev rz
  have hl2 : ws.length = ps.length := by rw [← hl, List.length_reverse, rz.length]
  have hb : BindsTo s2 fd0 ⟨[], ps.reverse.zip ws⟩ (ps.zip ws.reverse) := by
    subst efd
    rcases hD with ⟨_, rfl⟩ | ⟨e, _⟩
    · exact .of_eq (hbk kV doc pm an cdv ct ws hl2)
    · exact absurd rfl e
  refine wpAny_call (codeAny_mono (a.run X.A X.stack s2 H2 ⟨[], ps.reverse.zip ws⟩ ws.reverse zs.reverse Q E hr I2.env0 hb r2 q2) fun r s' hq => ?_)
  cases r with
  | error e => exact hx pins σ H2 s2 e s' I2 hq
  | ok fl =>
    cases fl with
    | ret u => exact I2.after hq
    | next => exact False.elim hq
    | brk => exact False.elim hq
    | cont => exact False.elim hq
end
end Bz
end
section
set_option Elab.async false
set_option linter.all false
set_option maxRecDepth 100000
set_option maxHeartbeats 2000000
namespace Bz
open PySem PySem.Spec PyProof.Rows L2 LamX NdefX
/-! ### `in`, `==` and `!=` by the text's own methods -/
/-- n in x, of an instance with the text's own __contains__ -/
def rOwnIn (C : Addr) (sp : Sp) (E : XK) : R2 := fun x y H Q => ∃ a dx fs, y = .ref a ∧ H a = some (.ins C dx fs) ∧ sp [.ref a, x] H (fun v H' => ∃ b, v = .bl b ∧ Q (.bl b) H') E
/-- x == y by the text's own __eq__ -/
def rOwnEq (C : Addr) (sp : Sp) (E : XK) : R2 := fun x y H Q => ∃ a b dx fs dy gs, x = .ref a ∧ y = .ref b ∧ H a = some (.ins C dx fs) ∧ H b = some (.ins C dy gs) ∧ sp [.ref a, .ref b] H (fun v H' => ∃ r, v = .bl r ∧ Q (.bl r) H') E
/-- x != y by it -/
def rOwnNe (C : Addr) (sp : Sp) (E : XK) : R2 := fun x y H Q => ∃ a b dx fs dy gs, x = .ref a ∧ y = .ref b ∧ H a = some (.ins C dx fs) ∧ H b = some (.ins C dy gs) ∧ sp [.ref a, .ref b] H (fun v H' => ∃ r, v = .bl r ∧ Q (.bl !r) H') E
section
variable {X : Cx} {CX : CXT} {k : Nat} {C : Addr} {ps : List Str} {sp : Sp} {E : XK}
theorem contains_own {f a : Addr} {fd : FuncData} {pins : List (Addr × Obj)} {σ : L2.St} {H : Hp} {s : Shared} {v : Value} {x : V} {dx : Addr} {fs : List (Str × V)} {Q : Bool → Shared → Prop}
    (F : FnOk X.prog X.w X.K X.mg X.base CX k f fd ps sp) (M : Meth X.K C "__contains__" f) (hb : Binds X.K fd ps []) (hr : Room k X.A) (hx : Passes CX X E) (I : Inv X pins σ H s) (rx : RelV x v) (ha : H a = some (.ins C dx fs))
    (h : sp [.ref a, x] H (fun v H' => ∃ b, v = .bl b ∧ ∀ s', Inv X pins σ H' s' → Q b s') E) : wpAny (model X.prog X.w) X.A (contains (.ref a) v) Q X.xe s := by
  obtain ⟨mA, J, _⟩ := ins_get I.hok ha
  obtain ⟨od, J, _⟩ := J.look
  unfold contains
  refine wpAny_holding ?_
  refine wpAny_bind (wpAny_bind (J.type.here ((PySem.W.looks_findIn I.kIn M.at_).here ?_)))
  show wpAny _ _ (if (some (Value.ref f) == some Value.none) = true then _ else _) _ _ s
  rw [if_neg (by simp)]
  refine wpAny_bind ?_
  unfold callSpecialUnlessNone?
  refine wpAny_bind (wpAny_bind (J.type.here ((PySem.W.looks_findIn I.kIn M.at_).here ?_)))
  refine wpAny_holding ?_
  refine wpAny_bind ((PySem.W.bind_fn I.kIn _ (beq_iff_eq.mp M.fn)).here ?_)
  show wpAny _ _ (if (Value.ref f == Value.none) = true then _ else _) _ _ s
  rw [if_neg (by simp)]
  refine wpAny_bind (thn (run_fn (us := [.ref a, v]) (vs := [.ref a, x]) F hr hb .nil hx I (.cons rfl (.cons rx .nil)) h) fun r s1 ⟨z, H1, I1, rz, b, ez, q⟩ => ?_)
  subst ez
  obtain rfl : r = Value.bool b := rz
  exact wpAny_pure (wpAny_truthy_bool (q s1 I1))
theorem op_ownIn (G : Mt X.prog X.w X.K X.mg X.base CX k C "__contains__" ps sp) (hr : Room k X.A) (hx : Passes CX X E) (mono : ∀ vs H Q Q' E, (∀ v H', Q v H' → Q' v H') → sp vs H Q E → sp vs H Q' E) : OpR X (compareOp .In) (rOwnIn C sp E) := by
  obtain ⟨f, fd, F, M, hb⟩ := G.ex
  intro pins s σ H x y v u Q I rx ry ⟨a, dx, fs, ey, ha, h⟩
  subst ey
  obtain rfl : u = Value.ref a := ry
  show wpAny _ _ (contains (.ref a) v >>= fun r => pure (Value.bool r)) _ _ s
  refine wpAny_bind (contains_own F M hb hr hx I rx ha (mono _ _ _ _ _ (fun v H' ⟨b, e, q⟩ => ⟨b, e, fun s' I' => wpAny_pure ⟨V.bl b, H', I', rfl, q⟩⟩) h))
theorem op_ownEq (G : Mt X.prog X.w X.K X.mg X.base CX k C "__eq__" ps sp) (hr : Room k X.A) (hx : Passes CX X E) : OpR X (compareOp .Eq) (rOwnEq C sp E) := by
  obtain ⟨f, fd, F, M, hb⟩ := G.ex
  intro pins s σ H x y v u Q I rx ry ⟨a, b, dx, fs, dy, gs, ex, ey, ha, hb', h⟩
  subst ex ey
  obtain rfl : v = Value.ref a := rx
  obtain rfl : u = Value.ref b := ry
  obtain ⟨mA, J, _⟩ := ins_get I.hok ha
  obtain ⟨mB, J', _⟩ := ins_get I.hok hb'
  obtain ⟨od, J, _⟩ := J.look
  obtain ⟨od', J', _⟩ := J'.look
  obtain ⟨m, hF⟩ := I.fr
  show wpAny _ _ (richCompare .Eq (.ref a) (.ref b)) _ _ s
  refine PySem.W.cmp_K (op := .Eq) (tb := .ref C) hr.units0 hF I.ok.mod.kin J J'.type (by simp [PySem.W.notFirst]) M.at_ M.fn ?_
  refine thn (run_fn (us := [.ref a, .ref b]) (vs := [.ref a, .ref b]) F hr hb .nil hx I (.cons rfl (.cons rfl .nil)) h) fun r s1 ⟨z, H1, I1, rz, c, ez, q⟩ => ?_
  subst ez
  obtain rfl : r = Value.bool c := rz
  exact ⟨.bl c, H1, I1, rfl, q⟩
theorem run_in1 {f : Addr} {fd : FuncData} {pins : List (Addr × Obj)} {σ : L2.St} {H : Hp} {s : Shared} {Q : VK} {us : List Value} {vs : List V} {A : Around} (F : FnOk X.prog X.w X.K X.mg X.base CX k f fd ps sp) (hs : Sub X k A) (hb : Binds X.K fd ps []) (hx : Passes CX X E)
    (I : Inv X pins σ H s) (r : Vals vs us) (h : sp vs H Q E) : wpAny (model X.prog X.w) A (call (.ref f) us) (EP X pins σ Q) X.xe s := by
  have hl : us.length = ps.length := by rw [← r.length]; exact F.len _ _ _ _ h
  have e0 : Env0 X.prog X.w X.K X.mg X.base A X.stack s H := by
    have e := I.env0
    exact ⟨by rw [hs.fr]; exact e.frames, e.mod, e.bs, e.bsz, e.funs, e.frf, e.hok, e.bare⟩
  refine wpAny_call (codeAny_mono (F.run A X.stack s H ⟨us, []⟩ us vs Q E hs.room e0 (by
    have := hb s us I.kIn (by simpa using hl)
    simpa using this) r h) fun r s' hq => ?_)
  cases r with
  | error e => exact hx pins σ H s e s' I hq
  | ok fl =>
    cases fl with
    | ret u => exact I.after hq
    | next => exact False.elim hq
    | brk => exact False.elim hq
    | cont => exact False.elim hq
structure NeObj (K : PySem.W.Frag) (C : Addr) : Prop where
  ne : PySem.W.findIn K (.ref C) "__ne__" = some (some (.builtin "object.__ne__"))
  ob : PySem.W.subIn K (.ref C) (.type "object") = some true
theorem op_ownNe (N : NeObj X.K C) (G : Mt X.prog X.w X.K X.mg X.base CX k C "__eq__" ps sp) (hr : Room (k + 1) X.A) (hx : Passes CX X E) : OpR X (compareOp .NotEq) (rOwnNe C sp E) := by
  obtain ⟨f, fd, F, M, hb⟩ := G.ex
  intro pins s σ H x y v u Q I rx ry ⟨a, b, dx, fs, dy, gs, ex, ey, ha, hb', h⟩
  subst ex ey
  obtain rfl : v = Value.ref a := rx
  obtain rfl : u = Value.ref b := ry
  obtain ⟨mA, J, _⟩ := ins_get I.hok ha
  obtain ⟨mB, J', _⟩ := ins_get I.hok hb'
  obtain ⟨od, J, _⟩ := J.look
  obtain ⟨od', J', _⟩ := J'.look
  have sb : Sub X (k + 1) X.A := ⟨hr, rfl⟩
  have S := PySem.F.cmp_object.ne
  have body : wpAny (model X.prog X.w) X.A (call (.builtin "object.__ne__") [.ref a, .ref b]) (fun v s' => ∃ r, v = .bool r ∧ EP X pins σ Q (.bool r) s') X.xe s := by
    refine wpAny_call (codeAny_call_builtin S.plain PySem.F.cmpEntry_ne (PySem.W.check_slot PySem.F.cmpKind_ne PySem.F.cmpSplit_ne (J.type.andThen (PySem.W.looks_subIn I.kIn N.ob)) (PySem.F.cmpArgs_ne _ _) ?_))
    unfold Builtin.«object.__ne__»
    have hu1 : X.A.in1.units < cLine := sb.in1.room.units0
    have hcall : wpAny (model X.prog X.w) X.A.in1 (call (.ref f) [.ref a, .ref b]) (fun v s' => ∃ r, v = Value.bool r ∧ EP X pins σ Q (.bool !r) s') X.xe s :=
      thn (run_in1 (us := [.ref a, .ref b]) (vs := [.ref a, .ref b]) F sb.in1 hb hx I (.cons rfl (.cons rfl .nil)) h) fun r s1 ⟨z, H1, I1, rz, c, ez, q⟩ => by
        subst ez
        obtain rfl : r = Value.bool c := rz
        exact ⟨c, rfl, V.bl !c, H1, I1, rfl, q⟩
    repeat (first
      | with_reducible refine wpAny_cRoomFor hu1 ?_
      | (refine wpAny_bind (m := callSpecialIfBound? (.ref a) (Str.ofString "__eq__") [.ref b])
          (PySem.W.ifBound_K I.kIn J M.at_ M.fn (wpAny_mono hcall (fun r s' hr => by
            obtain ⟨c, rfl, hq⟩ := hr
            repeat (first | exact ⟨_, rfl, hq⟩ | (refine wpAny_bind (m := truthy (.bool _)) (wpAny_truthy_bool ?_)) | wp_step)) fun _ _ e => e)))
      | wp_step)
  have bnd : wpAny (model X.prog X.w) X.A (callSpecialIfBound? (.ref a) "__ne__" [.ref b]) (fun v s' => ∃ r, v = some (.bool r) ∧ EP X pins σ Q (.bool r) s') X.xe s := by
    simp only [callSpecialIfBound?, bindSpecialIfBound?]
    refine wpAny_holding (wpAny_bind (wpAny_bind (wpAny_bind (J.type.here ((PySem.W.looks_findIn I.kIn N.ne).here ?_)))))
    simp only [S.bind]
    refine wpAny_bind (wpAny_askSetting (wpAny_ite ?_))
    have fin : wpAny (model X.prog X.w) X.A (call (.builtin "object.__ne__") ([.ref a] ++ [.ref b]) >>= fun v => pure (some v)) (fun v s' => ∃ r, v = some (.bool r) ∧ EP X pins σ Q (.bool r) s') X.xe s :=
      wpAny_bind (wpAny_mono body (fun v s' ⟨r, e, q⟩ => by subst e; exact wpAny_pure ⟨r, rfl, q⟩) fun _ _ h' => h')
    split
    · exact wpAny_bind (wpAny_pure (wpAny_pure fin))
    · exact wpAny_tryCatch (wpAny_bind (wpAny_pure (wpAny_pure fin)))
  have one : wpAny (model X.prog X.w) X.A (tryCompare (.ref a) "__ne__" (.ref b)) (fun v s' => ∃ r, v = some (.bool r) ∧ EP X pins σ Q (.bool r) s') X.xe s := by
    unfold tryCompare
    refine wpAny_bind (wpAny_mono bnd (fun v s' ⟨r, e, q⟩ => ?_) fun _ _ h' => h')
    subst e
    exact wpAny_pure ⟨r, rfl, q⟩
  show wpAny _ _ (richCompare .NotEq (.ref a) (.ref b)) _ _ s
  unfold richCompare
  simp only [oneThing_ref]
  refine wpAny_holding (wpAny_bind (wpAny_cRoomFor hr.units0 ?_))
  rw [cmpInfo_NotEq]
  refine wpAny_bind (J.type.here (wpAny_bind (J'.type.here ?_)))
  rw [show (Value.ref C != Value.ref C) = false from by simp]
  refine wpAny_bind (wpAny_pure ?_)
  refine wpAny_bind (wpAny_mono one (fun v s' ⟨r, e, q⟩ => ?_) fun _ _ h' => h')
  subst e
  exact wpAny_pure q
end
end Bz
end
section
set_option Elab.async false
set_option linter.all false
set_option maxRecDepth 100000
set_option maxHeartbeats 2000000
namespace Bz
open PySem PySem.Spec PyProof.Rows L2 LamX NdefX
/-! ### rules that name the written part outright (within comprehensions) -/
section
variable {X : Cx} {K : PySem.W.Frag}
theorem ix_listK (hK : X.K = K) : IxR X (rIxL K) := by cases hK; exact ix_list
theorem ix_tupK (hK : X.K = K) : IxR X (rIxT K) := by cases hK; exact ix_tup
theorem sl_listK (hK : X.K = K) : SlR X (rSlL K) := by cases hK; exact sl_list
theorem sl_tupK (hK : X.K = K) : SlR X (rSlT K) := by cases hK; exact sl_tup
theorem op_in_seqK (hK : X.K = K) : OpR X (compareOp .In) (rIn K false) := by cases hK; exact op_in_seq
theorem op_notIn_seqK (hK : X.K = K) : OpR X (compareOp .NotIn) (rIn K true) := by cases hK; exact op_notIn_seq
theorem op_eqDK (hK : X.K = K) (hu : X.A.units + 64 < cLine) : OpR X (compareOp .Eq) (rEqD K) := by cases hK; exact op_eqD hu
theorem op_neDK (hK : X.K = K) (hu : X.A.units + 64 < cLine) : OpR X (compareOp .NotEq) (rNeD K) := by cases hK; exact op_neD hu
theorem op_catTK (hK : X.K = K) : OpR X (binaryOp .Add) (rCatT K) := by cases hK; exact op_catT
def rLenK (K : PySem.W.Frag) : List V → Hp → VK → Prop := fun xs H Q => ∃ p ys, xs = [.ref p] ∧ (SqL K H p ys ∨ SqT K H p ys) ∧ Q (.int ys.length) H
theorem call_len_seqK (hK : X.K = K) : CallR X (.builtin "len") (rLenK K) := by cases hK; exact call_len_seq
def rListK (K : PySem.W.Frag) : List V → Hp → VK → Prop := fun xs H Q => ∃ p ys, xs = [.ref p] ∧ (SqL K H p ys ∨ SqT K H p ys) ∧ ∀ l, H l = none → Q (.ref l) (upd H l (.lst ys))
theorem call_list_ofK (hK : X.K = K) : CallR X (.type "list") (rListK K) := by cases hK; exact call_list_of
theorem cr_sumK (hK : X.K = K) (hc : X.calm = true) : CallR X (.builtin "sum") (rSum K) := by cases hK; exact cr_sum hc
theorem cr_maxK (hK : X.K = K) (hc : X.calm = true) : CallR X (.builtin "max") (rMax K) := by cases hK; exact cr_max hc
theorem cr_minK (hK : X.K = K) (hc : X.calm = true) : CallR X (.builtin "min") (rMin K) := by cases hK; exact cr_min hc
theorem cr_allK (hK : X.K = K) (hc : X.calm = true) : CallR X (.builtin "all") (rAll K) := by cases hK; exact cr_all hc
theorem cr_anyK (hK : X.K = K) (hc : X.calm = true) : CallR X (.builtin "any") (rAny K) := by cases hK; exact cr_any hc
variable {e : Expr} {es : List Expr} {te ta : TE} {tt : TA} {tg : Expr} {f : Str} {p pos : Pos}
theorem pe_fldK (hK : X.K = K) (he : PE X e ta) (hb : attributeBase e f X.env (eval e X.env) = eval e X.env) : PE X (.Attribute e f pos) (tFld K ta f) := by cases hK; exact pe_fld he hb
theorem pa_starK (hK : X.K = K) (he : PE X e te) (ha : PA X es tt) : PA X (.Starred e p :: es) (StX.tStar K te tt) := by cases hK; exact StX.pa_star he ha
theorem pi_listK (hK : X.K = K) (hl : PE X e te) : PI X tg e (iList K te) := by cases hK; exact pi_list hl
theorem pi_tupK (hK : X.K = K) (hl : PE X e te) : PI X tg e (iTup K te) := by cases hK; exact pi_tup hl
theorem pe_revLK {k : Nat} {p1 p2 p3 : Pos} (hK : X.K = K) (he : PE X e te) : PE X (.Subscript e (.Slice none none (some (.UnaryOp .USub (.Constant (.int 1) k p1) p2)) p3) pos) (tRevL K te) := by cases hK; exact pe_revL he
theorem pi_enumK {tpos : Pos} {elts : List Expr} {kk : Nat} (hK : X.K = K) (hg : Gl X "enumerate") (hm : X.mg "enumerate" = none) (ha : PA X [e] tt) (hs : starEach [e] X.env = [(false, eval e X.env)] := by rfl) :
    PI X (.Tuple elts kk tpos) (.Call (.Name "enumerate" p) [e] [] pos) (iEnum K tt) := by cases hK; exact pi_enum hg hm ha hs
theorem pi_zipK {e2 : Expr} {tpos : Pos} {elts : List Expr} {kk : Nat} (hK : X.K = K) (hg : Gl X "zip") (hm : X.mg "zip" = none) (ha : PA X [e, e2] tt)
    (hs : starEach [e, e2] X.env = (false, eval e X.env) :: starEach [e2] X.env := by rfl) (hpl : (backTo pos (starEach [e2] X.env)).any (·.1) = false := by rfl) :
    PI X (.Tuple elts kk tpos) (.Call (.Name "zip" p) [e, e2] [] pos) (iZip K tt) := by cases hK; exact pi_zip hg hm ha hs hpl
end
end Bz
end
section
set_option Elab.async false
set_option linter.all false
set_option maxRecDepth 100000
set_option maxHeartbeats 2000000
namespace Bz
open PySem PySem.Spec PyProof.Rows L2 LamX NdefX
/-! ### small words for readings -/
theorem wl {c : TT} {tb : TS} {D : Ends} {σ : L2.St} {H : Hp} (W : Nat → L2.St → Hp → Prop) (m0 : Nat) (h0 : W m0 σ H)
    (hs : ∀ m σ H, W m σ H → c σ H fun b H1 => if b = true then tb { D with nx := fun σ' H' => ∃ m', m' < m ∧ W m' σ' H', ct := fun σ' H' => ∃ m', m' < m ∧ W m' σ' H', bk := D.nx } σ H1 else D.nx σ H1)
    (mono : ∀ σ H Q Q', (∀ b H1, Q b H1 → Q' b H1) → c σ H Q → c σ H Q') : tWhile c tb D σ H := by
  refine ⟨W, ⟨m0, h0⟩, fun m σ H h => mono σ H _ _ (fun b H1 q => ?_) (hs m σ H h)⟩
  cases b with
  | true => exact ⟨_, fun σ' H' z => z, q⟩
  | false => exact q
theorem ifb {p : Prop} [Decidable p] {A B : Prop} (h1 : p → A) (h2 : ¬ p → B) : if (decide p) = true then A else B := by
  by_cases h : p
  · rw [decide_eq_true h, if_pos rfl]; exact h1 h
  · rw [decide_eq_false h, if_neg (by decide)]; exact h2 h
theorem ifnb {p : Prop} [Decidable p] {A B : Prop} (h1 : ¬ p → A) (h2 : p → B) : if (!decide p) = true then A else B := by
  by_cases h : p
  · rw [decide_eq_true h, if_neg (by decide)]; exact h2 h
  · rw [decide_eq_false h, if_pos (by decide)]; exact h1 h
theorem ifv {b : Bool} {A B : Prop} (h1 : b = true → A) (h2 : b = false → B) : if b = true then A else B := by
  cases b with
  | true => rw [if_pos rfl]; exact h1 rfl
  | false => rw [if_neg (by decide)]; exact h2 rfl
/-- all that was tracked is as it was -/
structure Sm (H H' : Hp) : Prop where
  at_ : ∀ b o, H b = some o → H' b = some o
theorem Sm.refl (H : Hp) : Sm H H := ⟨fun _ _ h => h⟩
theorem Sm.trans {H H1 H2 : Hp} (a : Sm H H1) (b : Sm H1 H2) : Sm H H2 := ⟨fun c o h => b.at_ c o (a.at_ c o h)⟩
theorem Sm.free {H H' : Hp} (e : Sm H H') {l : Addr} (h : H' l = Option.none) : H l = Option.none := by
  cases q : H l with
  | none => rfl
  | some o => rw [e.at_ l o q] at h; cases h
theorem Sm.seq {K : PySem.W.Frag} {H H' : Hp} {a : Addr} {xs : List V} (e : Sm H H') (h : SqL K H a xs) : SqL K H' a xs := by
  rcases h with (h | ⟨o, h⟩) | h
  · exact .inl (.inl (e.at_ _ _ h))
  · exact .inl (.inr ⟨o, e.at_ _ _ h⟩)
  · exact .inr h
theorem Sm.sqt {K : PySem.W.Frag} {H H' : Hp} {a : Addr} {xs : List V} (e : Sm H H') (h : SqT K H a xs) : SqT K H' a xs := by
  rcases h with (h | ⟨o, h⟩) | h
  · exact .inl (.inl (e.at_ _ _ h))
  · exact .inl (.inr ⟨o, e.at_ _ _ h⟩)
  · exact .inr h
theorem Sm.new {H : Hp} {p : Addr} {o : HO} (h : H p = none) : Sm H (upd H p o) := ⟨fun a u e => by
  rw [upd_ne (ne_of_none e h)]; exact e⟩
theorem Sm.mut {H H' : Hp} {p : Addr} {o : HO} (e : Sm H H') (h : H p = none) : Sm H (upd H' p o) := ⟨fun a u ha => by
  rw [upd_ne (ne_of_none ha h)]; exact e.at_ a u ha⟩
theorem Sm.lst {H H' : Hp} {p : Addr} {o : HO} (e : Sm H H') (h : H p = some o) : H' p = some o := e.at_ p o h
theorem Sm.ext {H H' : Hp} (e : Sm H H') : ExtN H H' := fun b o h _ => e.at_ b o h
/-- a new object is apart from all that is tracked -/
theorem upd_get {H : Hp} {p q : Addr} {o u : HO} (h : H q = some u) (hp : H p = none) : upd H p o q = some u := by
  rw [upd_ne (ne_of_none h hp)]; exact h
theorem sz_le {n : Nat} (h : n ≤ 1000000) : n ≤ sizeLine := Nat.le_trans h (by decide)
theorem sz_lt {n : Nat} (h : n < 1000000) : n < sizeLine := Nat.lt_of_lt_of_le h (by decide)
/-- x == a and y == c, of two names and two constants -/
theorem and_eq2 {σ : L2.St} {H : Hp} {i j : Nat} {x y a c : V} {Q : Bool → Hp → Prop} (hi : σ[i]? = some (some x)) (hj : σ[j]? = some (some y)) (h1 : scal x a = true) (h2 : scal y c = true) (h : Q (decide (x = a) && decide (y = c)) H) :
    tAnd (tTest (tOp rEq (tVar i) (tC a))) (tTest (tOp rEq (tVar j) (tC c))) σ H Q := by
  refine ⟨x, hi, h1, _, rfl, ?_⟩
  by_cases e : x = a
  · rw [decide_eq_true e] at h ⊢
    refine iteT ⟨y, hj, h2, _, rfl, ?_⟩
    exact h
  · rw [decide_eq_false e] at h ⊢
    exact iteF h
/-! ### comprehensions that only add -/
/-- what is known of the items made so far -/
def LcI (H0 : Hp) (D : Addr) (R : Nat → V → Hp → Prop) (i : Nat) (H : Hp) : Prop := Sm H0 H ∧ ∃ ys : List V, ys.length = i ∧ H D = some (.lst ys) ∧ ∀ (k : Nat) (y : V), ys[k]? = some y → R k y H
theorem LcI.zero {H0 : Hp} {D : Addr} {R : Nat → V → Hp → Prop} (hD : H0 D = none) : LcI H0 D R 0 (upd H0 D (.lst [])) := ⟨Sm.new hD, [], rfl, upd_same, fun k y h => by simp at h⟩
theorem LcI.turn {H0 : Hp} {D : Addr} {R : Nat → V → Hp → Prop} {i : Nat} {H : Hp} {te : TE} {σ : L2.St} (hD : H0 D = none) (hz : i < 1000000) (mono : ∀ k y H H', (∃ acc, H D = some (.lst acc)) → (∀ b o, b ≠ D → H b = some o → H' b = some o) → R k y H → R k y H') (p : LcI H0 D R i H)
    (he : Sm H0 H → (∃ acc, H D = some (.lst acc)) → ∀ Q : VK, (∀ y H', Sm H H' → R i y H' → Q y H') → te σ H Q) :
    te σ H fun y H4 => ∃ acc, H4 D = some (.lst acc) ∧ acc.length < sizeLine ∧ LcI H0 D R (i + 1) (upd H4 D (.lst (acc ++ [y]))) := by
  obtain ⟨e, ys, h1, h2, h3⟩ := p
  refine he e ⟨ys, h2⟩ _ fun y H' e2 r => ⟨ys, e2.at_ _ _ h2, by rw [h1]; exact sz_lt hz, (e.trans e2).mut hD, ys ++ [y], by simp [h1], upd_same, fun k z hk => ?_⟩
  have keep : ∀ b o, b ≠ D → H' b = some o → upd H' D (.lst (ys ++ [y])) b = some o := fun b o n h => by rw [upd_ne n]; exact h
  by_cases hi : k < ys.length
  · rw [List.getElem?_append_left hi] at hk
    exact mono k z _ _ ⟨ys, e2.at_ _ _ h2⟩ keep (mono k z _ _ ⟨ys, h2⟩ (fun b o _ h => e2.at_ b o h) (h3 k z hk))
  · have hi2 : k = i := by
      have := (List.getElem?_eq_some_iff.mp hk).1
      rw [List.length_append, List.length_singleton] at this
      omega
    rw [hi2, List.getElem?_append_right (by omega), h1, Nat.sub_self] at hk
    have hq : y = z := Option.some.inj hk
    rw [← hq, hi2]
    exact mono i y _ _ ⟨ys, e2.at_ _ _ h2⟩ keep r
theorem lcm {K : PySem.W.Frag} {a D : Addr} {xs : List V} {te : TE} {vs : List Nat} {σ : L2.St} {H0 : Hp} {Qd : Hp → Prop} {j : Nat} (R : Nat → V → Hp → Prop) (hD : H0 D = none) (hx : SqL K H0 a xs) (hz : xs.length ≤ 1000000) (hw : ∀ x, wipe ((wipe σ vs).set j (some x)) vs = wipe σ vs)
    (mono : ∀ k y H H', (∃ acc, H D = some (.lst acc)) → (∀ b o, b ≠ D → H b = some o → H' b = some o) → R k y H → R k y H')
    (he : ∀ i x H, xs[i]? = some x → Sm H0 H → (∃ acc, H D = some (.lst acc)) → ∀ Q : VK, (∀ y H', Sm H H' → R i y H' → Q y H') → te ((wipe σ vs).set j (some x)) H Q)
    (hd : ∀ ys H, ys.length = xs.length → (∀ (i : Nat) (y : V), ys[i]? = some y → R i y H) → H D = some (.lst ys) → Sm H0 H → Qd H) :
    ∃ W : Nat → Nat → Hp → Prop, (∃ m, W 0 m (upd H0 D (.lst []))) ∧ ∀ i m H, W i m H →
      ((Itl K a).stop i H ∧ Qd H) ∨ ((Itl K a).go i H ∧ ∃ Nx : Hp → Prop, (∀ H', Nx H' → ∃ m', m' < m ∧ W (i + 1) m' H') ∧ ∀ x H', (Itl K a).yld i H x H' → gName j x (wipe σ vs) H' fun σ2 H2 => wipe σ2 vs = wipe σ vs ∧ tYes σ2 H2 fun b H3 =>
        if b = true then te σ2 H3 fun y H4 => ∃ acc, H4 D = some (.lst acc) ∧ acc.length < sizeLine ∧ Nx (upd H4 D (.lst (acc ++ [y]))) else Nx H3) :=
  lc_list (xs := xs) (LcI H0 D R) (LcI.zero hD) (fun i H _ p => p.1.seq hx) (fun i x H hi p => ⟨hw x, by
    have hl := (List.getElem?_eq_some_iff.mp hi).1
    unfold tYes
    dsimp only
    rw [if_pos rfl]
    exact LcI.turn hD (by omega) mono p (he i x H hi)⟩) fun H ⟨e, ys, h1, h2, h3⟩ => hd ys H h1 h3 h2 e
theorem lcmR {D : Addr} {te : TE} {vs : List Nat} {σ : L2.St} {H0 : Hp} {Qd : Hp → Prop} {j n : Nat} {lo : Int} (R : Nat → V → Hp → Prop) (hD : H0 D = none) (hz : n ≤ 1000000) (hw : ∀ x, wipe ((wipe σ vs).set j (some x)) vs = wipe σ vs)
    (mono : ∀ k y H H', (∃ acc, H D = some (.lst acc)) → (∀ b o, b ≠ D → H b = some o → H' b = some o) → R k y H → R k y H')
    (he : ∀ (i : Nat) H, i < n → Sm H0 H → (∃ acc, H D = some (.lst acc)) → ∀ Q : VK, (∀ y H', Sm H H' → R i y H' → Q y H') → te ((wipe σ vs).set j (some (.int (lo + i)))) H Q)
    (hd : ∀ ys H, ys.length = n → (∀ (i : Nat) (y : V), ys[i]? = some y → R i y H) → H D = some (.lst ys) → Sm H0 H → Qd H) :
    ∃ W : Nat → Nat → Hp → Prop, (∃ m, W 0 m (upd H0 D (.lst []))) ∧ ∀ i m H, W i m H →
      ((Itr lo n).stop i H ∧ Qd H) ∨ ((Itr lo n).go i H ∧ ∃ Nx : Hp → Prop, (∀ H', Nx H' → ∃ m', m' < m ∧ W (i + 1) m' H') ∧ ∀ x H', (Itr lo n).yld i H x H' → gName j x (wipe σ vs) H' fun σ2 H2 => wipe σ2 vs = wipe σ vs ∧ tYes σ2 H2 fun b H3 =>
        if b = true then te σ2 H3 fun y H4 => ∃ acc, H4 D = some (.lst acc) ∧ acc.length < sizeLine ∧ Nx (upd H4 D (.lst (acc ++ [y]))) else Nx H3) :=
  lc_range (lo := lo) (n := n) (LcI H0 D R) (LcI.zero hD) (fun i H hi p => ⟨hw _, by
    unfold tYes
    dsimp only
    rw [if_pos rfl]
    exact LcI.turn hD (by omega) mono p (he i H hi)⟩) fun H ⟨e, ys, h1, h2, h3⟩ => hd ys H h1 h3 h2 e
theorem cut_tail (x : V) (xs : List V) : cutV (x :: xs) (some 1) none = xs := by
  have e : HT.sIx (x :: xs).length 0 (some 1) = 1 := by
    rw [show (1 : Int) = ((1 : Nat) : Int) from rfl, HT.sIx_nat, List.length_cons]
    omega
  unfold cutV
  rw [e, HT.sIx_none, List.drop_one, List.tail_cons, List.length_cons]
  exact List.take_of_length_le (by omega)
/-! ### places in a text -/
abbrev lcS (names : List (Str × NameKind)) : Scope := { kind := .function, names := names, isGenerator := false, isCoroutine := false, more := [] }
def stAt (l : List Stmt) (i : Nat) : Stmt := l.getD i (.Pass ⟨0, 0, 0, 0⟩)
def whBody : Stmt → List Stmt
  | .While _ b _ _ => b
  | .For _ _ b _ _ => b
  | .If _ b _ _ => b
  | _ => []
def asgVal : Stmt → Expr
  | .Assign _ v _ => v
  | .Return (some v) _ => v
  | .Expr v _ => v
  | _ => .Constant .none 0 ⟨0, 0, 0, 0⟩
def lcScope : Expr → Scope
  | .ListComp _ _ sc _ => sc
  | _ => { kind := .function, names := [], isGenerator := false, isCoroutine := false }
section
variable {S T : Type} [DecidableEq S] [DecidableEq T] (k1 : KI S) (k2 : KI T) {X : Cx} {P : Program} {w : World}
def kLenE (k1 : KI S) (k2 : KI T) (P : Program) (w : World) : List V → Hp → VK → Prop := fun xs H Q => ∃ a n, xs = [.ref a] ∧ ((∃ kvs, H a = some (k1.ho P w a kvs) ∧ n = kvs.length) ∨ ∃ kvs, H a = some (k2.ho P w a kvs) ∧ n = kvs.length) ∧ Q (.int (n : Nat)) H
theorem call_klenE (hX : X.prog = P ∧ X.w = w) : CallR X (.builtin "len") (kLenE k1 k2 P w) := by
  intro pins s σ H xs us Q I r h
  obtain ⟨a, n, e, h, q⟩ := h
  rcases h with ⟨kvs, h1, h2⟩ | ⟨kvs, h1, h2⟩
  · subst h2; exact call_klen k1 hX pins s σ H xs us Q I r ⟨a, kvs, e, h1, q⟩
  · subst h2; exact call_klen k2 hX pins s σ H xs us Q I r ⟨a, kvs, e, h1, q⟩
end
end Bz
end
section
set_option Elab.async false
set_option linter.all false
set_option maxRecDepth 100000
set_option maxHeartbeats 4000000
namespace Bz
open PySem PySem.Spec PyProof.Rows L2 LamX NdefX
def top (i : Nat) : Stmt := PySem.Challenge.pw_buzzround_k60_whole_great_numbers.main.body.getD i (.Pass ⟨0, 0, 0, 0⟩)
abbrev s_power_of : Stmt := top 12
abbrev s_figures_of : Stmt := top 13
abbrev s_Grid__init_ : Stmt := inClass (top 14) 0
abbrev s_Grid_width : Stmt := inClass (top 14) 1
abbrev s_Grid_end_of : Stmt := inClass (top 14) 2
abbrev s_Grid_mark_of : Stmt := inClass (top 14) 3
abbrev s_explored : Stmt := top 15
abbrev s_numbered : Stmt := top 16
abbrev s_classes_of : Stmt := top 17
abbrev s_least_grid : Stmt := top 18
abbrev s_grid_of : Stmt := top 19
abbrev s_stretch_levels : Stmt := top 20
abbrev s_stretches_upto : Stmt := top 21
abbrev s_parts_of : Stmt := top 22
abbrev s_levels_for : Stmt := top 23
abbrev s_paired_rows : Stmt := top 25
abbrev s_check_figures : Stmt := top 26
abbrev s_joined_grid : Stmt := top 27
abbrev s_opposite_grid : Stmt := top 28
abbrev s_counted_levels : Stmt := top 31
abbrev s_count_upto : Stmt := top 32
abbrev s_number_at : Stmt := top 33
abbrev s_least_within : Stmt := top 34
abbrev s_states_upto : Stmt := top 35
abbrev s_greater_stretches : Stmt := top 36
abbrev s_next_number : Stmt := top 37
abbrev s_least_number : Stmt := top 38
abbrev s_least_told : Stmt := top 39
abbrev s_least_unlike : Stmt := top 40
abbrev s_is_whole : Stmt := top 44
abbrev s_is_number : Stmt := top 45
abbrev s_check_base : Stmt := top 46
abbrev s_Kind__init_ : Stmt := inClass (top 53) 0
abbrev s_Kind__eq_ : Stmt := inClass (top 53) 1
abbrev s_Kind__and_ : Stmt := inClass (top 53) 2
abbrev s_Kind__or_ : Stmt := inClass (top 53) 3
abbrev s_Kind__xor_ : Stmt := inClass (top 53) 4
abbrev s_Kind__invert_ : Stmt := inClass (top 53) 5
abbrev s_Kind__contains_ : Stmt := inClass (top 53) 6
abbrev s_Kind_base : Stmt := inClass (top 53) 7
abbrev s_Kind_size : Stmt := inClass (top 53) 8
abbrev s_Kind_count : Stmt := inClass (top 53) 9
abbrev s_Kind_nth : Stmt := inClass (top 53) 10
abbrev s_Kind_after : Stmt := inClass (top 53) 11
abbrev s_Kind_least : Stmt := inClass (top 53) 12
abbrev s_Kind_is_finite : Stmt := inClass (top 53) 13
abbrev s_Kind_unlike : Stmt := inClass (top 53) 14
abbrev s_check_number : Stmt := top 54
abbrev s_check_divisor : Stmt := top 55
abbrev s_check_rest : Stmt := top 56
abbrev s_check_figure : Stmt := top 57
abbrev s_multiple : Stmt := top 58
abbrev s_rest : Stmt := top 59
abbrev s_figure_sum : Stmt := top 60
abbrev s_bears : Stmt := top 61
abbrev s_ends : Stmt := top 62
abbrev s_every : Stmt := top 63
abbrev s_law_bag : Stmt := top 65
abbrev s_law_draw : Stmt := top 66
abbrev s_law_great : Stmt := top 67
abbrev s_law_figures : Stmt := top 68
abbrev s_law_in : Stmt := top 69
abbrev s_law_kind : Stmt := top 70
abbrev s_law_pool : Stmt := top 71
abbrev s_law_plain : Stmt := top 72
abbrev s_law_test : Stmt := top 73
abbrev s_law_is : Stmt := top 74
abbrev s_law_add_up : Stmt := top 75
abbrev s_law_near : Stmt := top 76
abbrev s_law_by_sums : Stmt := top 77
abbrev s_law_right : Stmt := top 78
abbrev s_law : Stmt := top 79
/-- the built-ins are what they are -/
structure Bt (mg : Str → Option Value) : Prop where
  len : mg "len" = none
  range : mg "range" = none
  divmod : mg "divmod" = none
  isinstance : mg "isinstance" = none
  int : mg "int" = none
  bool : mg "bool" = none
  sum : mg "sum" = none
  abs : mg "abs" = none
  max : mg "max" = none
  min : mg "min" = none
  list : mg "list" = none
  repr : mg "repr" = none
  tuple : mg "tuple" = none
  str : mg "str" = none
  enumerate : mg "enumerate" = none
  set : mg "set" = none
  zip : mg "zip" = none
  any : mg "any" = none
  all : mg "all" = none
/-- what stands at a place, of the defs in defs -/
def nmAll (l c : Nat) : Str := if l = 164 ∧ c = 32 then "counted_levels.<locals>.<lambda>" else if l = 164 ∧ c = 56 then "counted_levels.<locals>.<lambda>" else if l = 206 ∧ c = 34 then "next_number.<locals>.<lambda>" else if l = 206 ∧ c = 53 then "next_number.<locals>.<lambda>" else if l = 324 ∧ c = 4 then "rest.<locals>.step" else if l = 326 ∧ c = 36 then "rest.<locals>.<lambda>" else if l = 332 ∧ c = 4 then "figure_sum.<locals>.step" else if l = 334 ∧ c = 36 then "figure_sum.<locals>.<lambda>" else if l = 338 ∧ c = 30 then "bears.<locals>.<lambda>" else if l = 338 ∧ c = 81 then "bears.<locals>.<lambda>" else if l = 342 ∧ c = 30 then "ends.<locals>.<lambda>" else if l = 342 ∧ c = 64 then "ends.<locals>.<lambda>" else if l = 345 ∧ c = 30 then "every.<locals>.<lambda>" else if l = 345 ∧ c = 55 then "every.<locals>.<lambda>" else Str.empty
theorem nm_164_32 : nmAll 164 32 = "counted_levels.<locals>.<lambda>" := by decide +kernel
theorem nm_164_56 : nmAll 164 56 = "counted_levels.<locals>.<lambda>" := by decide +kernel
theorem nm_206_34 : nmAll 206 34 = "next_number.<locals>.<lambda>" := by decide +kernel
theorem nm_206_53 : nmAll 206 53 = "next_number.<locals>.<lambda>" := by decide +kernel
theorem nm_324_4 : nmAll 324 4 = "rest.<locals>.step" := by decide +kernel
theorem nm_326_36 : nmAll 326 36 = "rest.<locals>.<lambda>" := by decide +kernel
theorem nm_332_4 : nmAll 332 4 = "figure_sum.<locals>.step" := by decide +kernel
theorem nm_334_36 : nmAll 334 36 = "figure_sum.<locals>.<lambda>" := by decide +kernel
theorem nm_338_30 : nmAll 338 30 = "bears.<locals>.<lambda>" := by decide +kernel
theorem nm_338_81 : nmAll 338 81 = "bears.<locals>.<lambda>" := by decide +kernel
theorem nm_342_30 : nmAll 342 30 = "ends.<locals>.<lambda>" := by decide +kernel
theorem nm_342_64 : nmAll 342 64 = "ends.<locals>.<lambda>" := by decide +kernel
theorem nm_345_30 : nmAll 345 30 = "every.<locals>.<lambda>" := by decide +kernel
theorem nm_345_55 : nmAll 345 55 = "every.<locals>.<lambda>" := by decide +kernel
end Bz
end
section
set_option Elab.async false
set_option linter.all false
set_option maxRecDepth 100000
set_option maxHeartbeats 0
namespace BzH
open PySem PySem.Spec PyProof.Rows L2 Bz
def d_power_of : He.DefD := ⟨("power_of", none), "power_of", "power_of", defArgs s_power_of, defBody s_power_of, defScope s_power_of, [], []⟩
def d_figures_of : He.DefD := ⟨("figures_of", none), "figures_of", "figures_of", defArgs s_figures_of, defBody s_figures_of, defScope s_figures_of, [], []⟩
def d_Grid__init_ : He.DefD := ⟨("Grid", some "__init__"), "__init__", "Grid.__init__", defArgs s_Grid__init_, defBody s_Grid__init_, defScope s_Grid__init_, [], []⟩
def d_Grid_width : He.DefD := ⟨("Grid", some "width"), "width", "Grid.width", defArgs s_Grid_width, defBody s_Grid_width, defScope s_Grid_width, [], []⟩
def d_Grid_end_of : He.DefD := ⟨("Grid", some "end_of"), "end_of", "Grid.end_of", defArgs s_Grid_end_of, defBody s_Grid_end_of, defScope s_Grid_end_of, [], []⟩
def d_Grid_mark_of : He.DefD := ⟨("Grid", some "mark_of"), "mark_of", "Grid.mark_of", defArgs s_Grid_mark_of, defBody s_Grid_mark_of, defScope s_Grid_mark_of, [], []⟩
def d_explored : He.DefD := ⟨("explored", none), "explored", "explored", defArgs s_explored, defBody s_explored, defScope s_explored, [], []⟩
def d_numbered : He.DefD := ⟨("numbered", none), "numbered", "numbered", defArgs s_numbered, defBody s_numbered, defScope s_numbered, [], []⟩
def d_classes_of : He.DefD := ⟨("classes_of", none), "classes_of", "classes_of", defArgs s_classes_of, defBody s_classes_of, defScope s_classes_of, [], []⟩
def d_least_grid : He.DefD := ⟨("least_grid", none), "least_grid", "least_grid", defArgs s_least_grid, defBody s_least_grid, defScope s_least_grid, [], []⟩
def d_grid_of : He.DefD := ⟨("grid_of", none), "grid_of", "grid_of", defArgs s_grid_of, defBody s_grid_of, defScope s_grid_of, [], []⟩
def d_stretch_levels : He.DefD := ⟨("stretch_levels", none), "stretch_levels", "stretch_levels", defArgs s_stretch_levels, defBody s_stretch_levels, defScope s_stretch_levels, [], []⟩
def d_stretches_upto : He.DefD := ⟨("stretches_upto", none), "stretches_upto", "stretches_upto", defArgs s_stretches_upto, defBody s_stretches_upto, defScope s_stretches_upto, [], []⟩
def d_parts_of : He.DefD := ⟨("parts_of", none), "parts_of", "parts_of", defArgs s_parts_of, defBody s_parts_of, defScope s_parts_of, [], []⟩
def d_levels_for : He.DefD := ⟨("levels_for", none), "levels_for", "levels_for", defArgs s_levels_for, defBody s_levels_for, defScope s_levels_for, [], []⟩
def d_paired_rows : He.DefD := ⟨("paired_rows", none), "paired_rows", "paired_rows", defArgs s_paired_rows, defBody s_paired_rows, defScope s_paired_rows, [], []⟩
def d_check_figures : He.DefD := ⟨("check_figures", none), "check_figures", "check_figures", defArgs s_check_figures, defBody s_check_figures, defScope s_check_figures, [], []⟩
def d_joined_grid : He.DefD := ⟨("joined_grid", none), "joined_grid", "joined_grid", defArgs s_joined_grid, defBody s_joined_grid, defScope s_joined_grid, [], []⟩
def d_opposite_grid : He.DefD := ⟨("opposite_grid", none), "opposite_grid", "opposite_grid", defArgs s_opposite_grid, defBody s_opposite_grid, defScope s_opposite_grid, [], []⟩
def d_counted_levels : He.DefD := ⟨("counted_levels", none), "counted_levels", "counted_levels", defArgs s_counted_levels, defBody s_counted_levels, defScope s_counted_levels, [], []⟩
def d_count_upto : He.DefD := ⟨("count_upto", none), "count_upto", "count_upto", defArgs s_count_upto, defBody s_count_upto, defScope s_count_upto, [], []⟩
def d_number_at : He.DefD := ⟨("number_at", none), "number_at", "number_at", defArgs s_number_at, defBody s_number_at, defScope s_number_at, [], []⟩
def d_least_within : He.DefD := ⟨("least_within", none), "least_within", "least_within", defArgs s_least_within, defBody s_least_within, defScope s_least_within, [], []⟩
def d_states_upto : He.DefD := ⟨("states_upto", none), "states_upto", "states_upto", defArgs s_states_upto, defBody s_states_upto, defScope s_states_upto, [], []⟩
def d_greater_stretches : He.DefD := ⟨("greater_stretches", none), "greater_stretches", "greater_stretches", defArgs s_greater_stretches, defBody s_greater_stretches, defScope s_greater_stretches, [], []⟩
def d_next_number : He.DefD := ⟨("next_number", none), "next_number", "next_number", defArgs s_next_number, defBody s_next_number, defScope s_next_number, [], []⟩
def d_least_number : He.DefD := ⟨("least_number", none), "least_number", "least_number", defArgs s_least_number, defBody s_least_number, defScope s_least_number, [], []⟩
def d_least_told : He.DefD := ⟨("least_told", none), "least_told", "least_told", defArgs s_least_told, defBody s_least_told, defScope s_least_told, [], []⟩
def d_least_unlike : He.DefD := ⟨("least_unlike", none), "least_unlike", "least_unlike", defArgs s_least_unlike, defBody s_least_unlike, defScope s_least_unlike, [], []⟩
def d_is_whole : He.DefD := ⟨("is_whole", none), "is_whole", "is_whole", defArgs s_is_whole, defBody s_is_whole, defScope s_is_whole, [], []⟩
def d_is_number : He.DefD := ⟨("is_number", none), "is_number", "is_number", defArgs s_is_number, defBody s_is_number, defScope s_is_number, [], []⟩
def d_check_base : He.DefD := ⟨("check_base", none), "check_base", "check_base", defArgs s_check_base, defBody s_check_base, defScope s_check_base, [], []⟩
def d_Kind__init_ : He.DefD := ⟨("Kind", some "__init__"), "__init__", "Kind.__init__", defArgs s_Kind__init_, defBody s_Kind__init_, defScope s_Kind__init_, [], []⟩
def d_Kind__eq_ : He.DefD := ⟨("Kind", some "__eq__"), "__eq__", "Kind.__eq__", defArgs s_Kind__eq_, defBody s_Kind__eq_, defScope s_Kind__eq_, [], []⟩
def d_Kind__and_ : He.DefD := ⟨("Kind", some "__and__"), "__and__", "Kind.__and__", defArgs s_Kind__and_, defBody s_Kind__and_, defScope s_Kind__and_, [], []⟩
def d_Kind__or_ : He.DefD := ⟨("Kind", some "__or__"), "__or__", "Kind.__or__", defArgs s_Kind__or_, defBody s_Kind__or_, defScope s_Kind__or_, [], []⟩
def d_Kind__xor_ : He.DefD := ⟨("Kind", some "__xor__"), "__xor__", "Kind.__xor__", defArgs s_Kind__xor_, defBody s_Kind__xor_, defScope s_Kind__xor_, [], []⟩
def d_Kind__invert_ : He.DefD := ⟨("Kind", some "__invert__"), "__invert__", "Kind.__invert__", defArgs s_Kind__invert_, defBody s_Kind__invert_, defScope s_Kind__invert_, [], []⟩
def d_Kind__contains_ : He.DefD := ⟨("Kind", some "__contains__"), "__contains__", "Kind.__contains__", defArgs s_Kind__contains_, defBody s_Kind__contains_, defScope s_Kind__contains_, [], []⟩
def d_Kind_base : He.DefD := ⟨("Kind", some "base"), "base", "Kind.base", defArgs s_Kind_base, defBody s_Kind_base, defScope s_Kind_base, [], []⟩
def d_Kind_size : He.DefD := ⟨("Kind", some "size"), "size", "Kind.size", defArgs s_Kind_size, defBody s_Kind_size, defScope s_Kind_size, [], []⟩
def d_Kind_count : He.DefD := ⟨("Kind", some "count"), "count", "Kind.count", defArgs s_Kind_count, defBody s_Kind_count, defScope s_Kind_count, [], []⟩
def d_Kind_nth : He.DefD := ⟨("Kind", some "nth"), "nth", "Kind.nth", defArgs s_Kind_nth, defBody s_Kind_nth, defScope s_Kind_nth, [], []⟩
def d_Kind_after : He.DefD := ⟨("Kind", some "after"), "after", "Kind.after", defArgs s_Kind_after, defBody s_Kind_after, defScope s_Kind_after, [], []⟩
def d_Kind_least : He.DefD := ⟨("Kind", some "least"), "least", "Kind.least", defArgs s_Kind_least, defBody s_Kind_least, defScope s_Kind_least, [], []⟩
def d_Kind_is_finite : He.DefD := ⟨("Kind", some "is_finite"), "is_finite", "Kind.is_finite", defArgs s_Kind_is_finite, defBody s_Kind_is_finite, defScope s_Kind_is_finite, [], []⟩
def d_Kind_unlike : He.DefD := ⟨("Kind", some "unlike"), "unlike", "Kind.unlike", defArgs s_Kind_unlike, defBody s_Kind_unlike, defScope s_Kind_unlike, [], []⟩
def d_check_number : He.DefD := ⟨("check_number", none), "check_number", "check_number", defArgs s_check_number, defBody s_check_number, defScope s_check_number, [], []⟩
def d_check_divisor : He.DefD := ⟨("check_divisor", none), "check_divisor", "check_divisor", defArgs s_check_divisor, defBody s_check_divisor, defScope s_check_divisor, [], []⟩
def d_check_rest : He.DefD := ⟨("check_rest", none), "check_rest", "check_rest", defArgs s_check_rest, defBody s_check_rest, defScope s_check_rest, [], []⟩
def d_check_figure : He.DefD := ⟨("check_figure", none), "check_figure", "check_figure", defArgs s_check_figure, defBody s_check_figure, defScope s_check_figure, [], []⟩
def d_multiple : He.DefD := ⟨("multiple", none), "multiple", "multiple", defArgs s_multiple, defBody s_multiple, defScope s_multiple, [], []⟩
def d_rest : He.DefD := ⟨("rest", none), "rest", "rest", defArgs s_rest, defBody s_rest, defScope s_rest, [], []⟩
def d_figure_sum : He.DefD := ⟨("figure_sum", none), "figure_sum", "figure_sum", defArgs s_figure_sum, defBody s_figure_sum, defScope s_figure_sum, [], []⟩
def d_bears : He.DefD := ⟨("bears", none), "bears", "bears", defArgs s_bears, defBody s_bears, defScope s_bears, [], []⟩
def d_ends : He.DefD := ⟨("ends", none), "ends", "ends", defArgs s_ends, defBody s_ends, defScope s_ends, [], []⟩
def d_every : He.DefD := ⟨("every", none), "every", "every", defArgs s_every, defBody s_every, defScope s_every, [], []⟩
def d_law_bag : He.DefD := ⟨("_law_bag", none), "_law_bag", "_law_bag", defArgs s_law_bag, defBody s_law_bag, defScope s_law_bag, [], []⟩
def d_law_draw : He.DefD := ⟨("_law_draw", none), "_law_draw", "_law_draw", defArgs s_law_draw, defBody s_law_draw, defScope s_law_draw, [], []⟩
def d_law_great : He.DefD := ⟨("_law_great", none), "_law_great", "_law_great", defArgs s_law_great, defBody s_law_great, defScope s_law_great, [], []⟩
def d_law_figures : He.DefD := ⟨("_law_figures", none), "_law_figures", "_law_figures", defArgs s_law_figures, defBody s_law_figures, defScope s_law_figures, [], []⟩
def d_law_in : He.DefD := ⟨("_law_in", none), "_law_in", "_law_in", defArgs s_law_in, defBody s_law_in, defScope s_law_in, [], []⟩
def d_law_kind : He.DefD := ⟨("_law_kind", none), "_law_kind", "_law_kind", defArgs s_law_kind, defBody s_law_kind, defScope s_law_kind, [], []⟩
def d_law_pool : He.DefD := ⟨("_law_pool", none), "_law_pool", "_law_pool", defArgs s_law_pool, defBody s_law_pool, defScope s_law_pool, [], []⟩
def d_law_plain : He.DefD := ⟨("_law_plain", none), "_law_plain", "_law_plain", defArgs s_law_plain, defBody s_law_plain, defScope s_law_plain, [], []⟩
def d_law_test : He.DefD := ⟨("_law_test", none), "_law_test", "_law_test", defArgs s_law_test, defBody s_law_test, defScope s_law_test, [], []⟩
def d_law_is : He.DefD := ⟨("_law_is", none), "_law_is", "_law_is", defArgs s_law_is, defBody s_law_is, defScope s_law_is, [], []⟩
def d_law_add_up : He.DefD := ⟨("_law_add_up", none), "_law_add_up", "_law_add_up", defArgs s_law_add_up, defBody s_law_add_up, defScope s_law_add_up, [], []⟩
def d_law_near : He.DefD := ⟨("_law_near", none), "_law_near", "_law_near", defArgs s_law_near, defBody s_law_near, defScope s_law_near, [], []⟩
def d_law_by_sums : He.DefD := ⟨("_law_by_sums", none), "_law_by_sums", "_law_by_sums", defArgs s_law_by_sums, defBody s_law_by_sums, defScope s_law_by_sums, [], []⟩
def d_law_right : He.DefD := ⟨("_law_right", none), "_law_right", "_law_right", defArgs s_law_right, defBody s_law_right, defScope s_law_right, [], []⟩
def d_law : He.DefD := ⟨("law", none), "law", "law", defArgs s_law, defBody s_law, defScope s_law, [], []⟩
def fn : List He.DefD := ([d_power_of, d_figures_of, d_Grid__init_, d_Grid_width, d_Grid_end_of, d_Grid_mark_of, d_explored, d_numbered, d_classes_of, d_least_grid, d_grid_of, d_stretch_levels, d_stretches_upto, d_parts_of, d_levels_for, d_paired_rows, d_check_figures, d_joined_grid, d_opposite_grid, d_counted_levels, d_count_upto, d_number_at, d_least_within, d_states_upto, d_greater_stretches, d_next_number, d_least_number, d_least_told, d_least_unlike, d_is_whole] : List He.DefD) ++ ([d_is_number, d_check_base, d_Kind__init_, d_Kind__eq_, d_Kind__and_, d_Kind__or_, d_Kind__xor_, d_Kind__invert_, d_Kind__contains_, d_Kind_base, d_Kind_size, d_Kind_count, d_Kind_nth, d_Kind_after, d_Kind_least, d_Kind_is_finite, d_Kind_unlike, d_check_number, d_check_divisor, d_check_rest, d_check_figure, d_multiple, d_rest, d_figure_sum, d_bears, d_ends, d_every, d_law_bag, d_law_draw, d_law_great] : List He.DefD) ++ ([d_law_figures, d_law_in, d_law_kind, d_law_pool, d_law_plain, d_law_test, d_law_is, d_law_add_up, d_law_near, d_law_by_sums, d_law_right, d_law] : List He.DefD)
def fa : List He.Fa := ([.glo "RoundError", .glo "NoNumber", .glo "NoBase", .glo "NoDivisor", .glo "NoRest", .glo "NoFigure", .glo "NoMatch", .glo "TooWide", .glo "NoPlace", .glo "Grid", .glo "Kind", .glo "_wall", .glo "power_of", .glo "figures_of", .glo "explored", .glo "numbered", .glo "classes_of", .glo "least_grid", .glo "grid_of", .glo "stretch_levels", .glo "stretches_upto", .glo "parts_of", .glo "levels_for", .glo "paired_rows", .glo "check_figures", .glo "joined_grid", .glo "opposite_grid", .glo "counted_levels", .glo "count_upto", .glo "number_at"] : List He.Fa) ++ ([.glo "least_within", .glo "states_upto", .glo "greater_stretches", .glo "next_number", .glo "least_number", .glo "least_told", .glo "least_unlike", .glo "is_whole", .glo "is_number", .glo "check_base", .glo "check_number", .glo "check_divisor", .glo "check_rest", .glo "check_figure", .glo "multiple", .glo "rest", .glo "figure_sum", .glo "bears", .glo "ends", .glo "every", .glo "_law_bag", .glo "_law_draw", .glo "_law_great", .glo "_law_figures", .glo "_law_in", .glo "_law_kind", .glo "_law_pool", .glo "_law_plain", .glo "_law_test", .glo "_law_is"] : List He.Fa) ++ ([.glo "_law_add_up", .glo "_law_near", .glo "_law_by_sums", .glo "_law_right", .glo "law", .free "len", .free "range", .free "divmod", .free "isinstance", .free "int", .free "bool", .free "sum", .free "abs", .free "max", .free "min", .free "list", .free "repr", .free "tuple", .free "str", .free "enumerate", .free "set", .free "zip", .free "any", .free "all", .free "ValueError", .int "LEAST_BASE" 2, .int "MOST_BASE" 16, .int "MOST_SIZE" 200, .int "MOST_DIVISOR" 12, .int "MOST_NUMBER" 10000000000000000000000000000000000000000] : List He.Fa) ++ ([.cls "Grid", .mkr "Grid", .meth "Grid" "__init__", .meth "Grid" "width", .meth "Grid" "end_of", .meth "Grid" "mark_of", .cls "Kind", .mkr "Kind", .meth "Kind" "__init__", .meth "Kind" "__eq__", .meth "Kind" "__and__", .meth "Kind" "__or__", .meth "Kind" "__xor__", .meth "Kind" "__invert__", .meth "Kind" "__contains__", .meth "Kind" "base", .meth "Kind" "size", .meth "Kind" "count", .meth "Kind" "nth", .meth "Kind" "after", .meth "Kind" "least", .meth "Kind" "is_finite", .meth "Kind" "unlike", .noat "Grid" "figures", .noat "Grid" "goals", .noat "Grid" "marks", .noat "Kind" "grid", .glo "BOTH", .glo "EITHER", .glo "JUST_ONE"] : List He.Fa)
def tf : List He.Defn := [("rest", none), ("figure_sum", none), ("bears", none), ("ends", none), ("every", none), ("counted_levels", none), ("next_number", none)]
abbrev R : PySem.W.OpenRow := PySem.W.OpenLaw.row PySem.Challenge.rw_buzzround_k60_whole_great_numbers
def ex (K : PySem.W.Frag) : Bool := He.eqO (PySem.W.findIn K (.ref (He.ga K "Kind")) "__class__") (some (some (.builtin "object.__class__"))) && (He.eqO (PySem.W.specialIn K (.builtin "object.__class__") "__get__") (some (some (.builtin "getset_descriptor.__get__"))) && (decide (PySem.W.takesIn K (.builtin "object.__class__") = some true) && (decide (PySem.W.mroIn K (He.ga K "Kind") (.type "object") = some true) && (decide (PySem.W.kitOne K (.ref (He.ga K "Kind")) (.ref (He.ga K "Kind")) = some true) && (He.eqO (PySem.W.findIn K (.ref (He.ga K "Kind")) "__ne__") (some (some (.builtin "object.__ne__"))) && (decide (PySem.W.subIn K (.ref (He.ga K "Kind")) (.type "object") = some true) && (PySem.W.selfFirst K (He.ga K "Kind") && (He.tupB K "BOTH" [.bl false, .bl false, .bl false, .bl true] && (He.tupB K "EITHER" [.bl false, .bl true, .bl true, .bl true] && (He.tupB K "JUST_ONE" [.bl false, .bl true, .bl true, .bl false] && (true)))))))))))
abbrev hk : PySem.W.Hook := He.hookX 5 fa fn [] tf ex
def ob (s : PySem.W.SharedT) : He.AlX := He.obsX 5 fa fn [] tf ex (HandSHeadRun.getT s)
theorem ob_eq (s : PySem.W.SharedT) : ob s = hk.obs s.abs := He.obsX_eq (HandSHeadRun.getT_eq s)
def loose : List Str := (["_wall", "__name__", "RoundError", "NoNumber", "NoBase", "NoDivisor", "NoRest", "NoFigure", "NoMatch", "TooWide", "NoPlace", "power_of", "figures_of", "Grid", "explored", "numbered", "classes_of", "least_grid", "grid_of", "stretch_levels", "stretches_upto", "parts_of", "levels_for", "paired_rows", "check_figures", "joined_grid", "opposite_grid", "MOST_NUMBER", "counted_levels", "count_upto"] : List Str) ++ (["number_at", "least_within", "states_upto", "greater_stretches", "next_number", "least_number", "least_told", "least_unlike", "LEAST_BASE", "MOST_BASE", "is_whole", "is_number", "check_base", "MOST_SIZE", "MOST_DIVISOR", "BOTH", "EITHER", "JUST_ONE", "Kind", "check_number", "check_divisor", "check_rest", "check_figure", "multiple", "rest", "figure_sum", "bears", "ends", "every", "_law_bag"] : List Str) ++ (["_law_draw", "_law_great", "_law_figures", "_law_in", "_law_kind", "_law_pool", "_law_plain", "_law_test", "_law_is", "_law_add_up", "_law_near", "_law_by_sums", "_law_right"] : List Str)
theorem run (w : World) : HandSHeadRun.RunEq R (PySem.W.view R.prog [79]) hk ob 6000 loose w := by
  intro os
  kernel_rfl
end BzH
end
section
set_option Elab.async false
set_option linter.all false
set_option maxRecDepth 100000
set_option maxHeartbeats 4000000
namespace Bz
open PySem PySem.Spec PyProof.Rows L2 LamX NdefX
abbrev N_figures_of : List Str := ["number", "base", "found", "figure"]
theorem sc_figures_of : FnScope N_figures_of ["number", "base"] (defScope s_figures_of) := ⟨rfl, rfl, rfl, by decide +kernel, rfl, by decide +kernel, by decide +kernel⟩
theorem hb_figures_of : HB s_figures_of "figures_of" "figures_of" ["number", "base"] := fun _ _ _ _ _ _ us hl => match us, hl with | [_, _], _ => rfl
abbrev nV (l : List Nat) : List V := l.map fun k => V.int (k : Nat)
/-- figures_of(number, base) -/
def spFigures : Sp := fun vs H Q _ => ∃ n b : Nat, vs = [.int n, .int b] ∧ 2 ≤ b ∧ b ≤ 16 ∧ n < 2 ^ 3000 ∧ ∀ p H', H p = none → Sm H H' → H' p = some (.lst (nV (figs b n))) → Q (.ref p) H'
theorem log2_le {n k : Nat} (hn : n < 2 ^ k) : n.log2 ≤ k := by
  by_cases h : n = 0
  · subst h; simp
  · have := (Nat.log2_lt h).mpr hn
    omega
theorem bits_lt {n k : Nat} (hn : n < 2 ^ k) : Builtin.Int.intBits (n : Int) ≤ k + 1 := by
  unfold Builtin.Int.intBits
  have h := log2_le hn
  split
  · omega
  · show (n : Int).natAbs.log2 + 1 ≤ _
    rw [Int.natAbs_natCast]; omega
section
variable {P : Program} {w : World} {K : PySem.W.Frag} {mg : Str → Option Value} {base : Heap}
theorem g_figures_of {f : Addr} (T : Bt mg) (D : Df K "figures_of" "figures_of" s_figures_of f) (m : mg "figures_of" = some (.ref f)) : Fn P w K mg base CXN 1 "figures_of" ["number", "base"] spFigures := by
  refine D.fn m sc_figures_of hb_figures_of (fun vs H Q E ⟨n, b, e, _⟩ => by rw [e]; rfl) fun cdv A outer s H vs Q E hr ⟨n, b, e, hb, hb2, hn, k_⟩ => ?_
  subst e
  refine ⟨_, (pss_cons (ps_set (i := 2) sc_figures_of.nd rfl (Or.inl rfl) (pe_lst pa_nil))
    (pss_cons (ps_while PassesOwn.never (pt_cmpR (op_gt) (pv 0) pe_int (nomark _)) (pss_cons (ps_asg (pe_callB call_divmodW (by rfl) T.divmod (by decide +kernel) (pa_cons (pv 0) (pa_cons (pv 1) pa_nil))) (pg_tup rfl (pgs_cons (pg_name (i := 0) sc_figures_of.nd rfl (Or.inl rfl)) (pgs_cons (pg_name (i := 3) sc_figures_of.nd rfl (Or.inl rfl)) pgs_nil))))
    (pss_one (ps_expr (pe_bm PySem.F.plainAttrs_list PySem.F.slot_list_append PySem.F.type_list_append mt_append (pv 2) (pa_cons (pv 3) pa_nil))))))
    (pss_one (ps_ret (pe_revL (pv 2)))))), ?_⟩
  refine ⟨Nat.zero_le _, fun l hl => ?_⟩
  refine wl (fun k σ H' => ∃ (m : Nat) (acc : List Nat) (o : Option V), k = m ∧ σ = [some (.int m), some (.int b), some (.ref l), o] ∧ Sm H H' ∧ H' l = some (.lst (nV acc)) ∧ figs b n = figs b m ++ acc.reverse ∧ m ≤ n ∧ m * 2 ^ acc.length ≤ n)
    n ⟨n, [], none, rfl, rfl, Sm.new hl, upd_same, by simp, Nat.le_refl _, by simp⟩ ?_ ?_
  · rintro k σ H1 ⟨m, acc, o, rfl, rfl, e1, e2, e3, e4, e5⟩
    refine ⟨_, rfl, _, _, rfl, rfl, _, rfl, ?_⟩
    refine ifb (fun h => ?_) (fun h => ?_)
    · have kp : 0 < k := by omega
      have h2 : 2 ^ acc.length ≤ n := Nat.le_trans (Nat.le_mul_of_pos_left _ kp) e5
      have h3 : acc.length < 3000 := by
        have := Nat.lt_of_le_of_lt h2 hn
        exact (Nat.pow_lt_pow_iff_right (by decide : 1 < 2)).mp this
      refine ⟨_, rfl, _, rfl, _, _, rfl, divp_ok (by omega) (Nat.le_trans (bits_lt (Nat.lt_of_le_of_lt e4 hn)) (by omega)), fun p hp => ?_⟩
      refine ⟨p, _, rfl, SqT.of upd_same, rfl, _, _, rfl, _, _, rfl, rfl, ?_⟩
      have lp : l ≠ p := ne_of_none e2 hp
      refine ⟨_, rfl, .inl ⟨rfl, _, SqL.of (upd_get e2 hp)⟩, _, rfl, l, _, _, rfl, rfl, upd_get e2 hp, by rw [List.length_map]; exact sz_lt (by omega), ?_⟩
      have d1 : ((k : Int) / (b : Int)) = ((k / b : Nat) : Int) := rfl
      have d2 : ((k : Int) % (b : Int)) = ((k % b : Nat) : Int) := rfl
      refine ⟨k / b, Nat.div_lt_self kp (by omega), k / b, acc ++ [k % b], some (.int ((k % b : Nat) : Int)), rfl, ?_, ?_, ?_, ?_, ?_, ?_⟩
      · rw [← d1, ← d2]; rfl
      · exact Sm.mut (Sm.trans e1 (Sm.new hp)) hl
      · rw [upd_same, d2, nV, nV, List.map_append]; rfl
      · rw [e3, figs_pos hb kp, List.reverse_append, List.append_assoc]; rfl
      · exact Nat.le_trans (Nat.div_le_self k b) e4
      · rw [List.length_append, List.length_singleton, Nat.pow_succ]
        have q1 : k / b * b ≤ k := Nat.div_mul_le_self k b
        have q2 : k / b * 2 ≤ k / b * b := Nat.mul_le_mul_left _ hb
        have q3 : (k / b * 2) * 2 ^ acc.length ≤ k * 2 ^ acc.length := Nat.mul_le_mul_right _ (Nat.le_trans q2 q1)
        have q4 : k / b * (2 ^ acc.length * 2) = (k / b * 2) * 2 ^ acc.length := by
          rw [Nat.mul_comm (2 ^ acc.length) 2, Nat.mul_assoc]
        omega
    · have k0 : k = 0 := by omega
      subst k0
      rw [figs_zero, List.nil_append] at e3
      refine ⟨_, rfl, l, _, rfl, SqL.of e2, fun p hp => ?_⟩
      refine k_ p _ (e1.free hp) (e1.trans (Sm.new hp)) ?_
      rw [upd_same, e3, nV, nV, List.map_reverse]
  · rintro σ H0 Q1 Q2 hq ⟨v, a1, i, j, a2, a3, c, a4, a5⟩
    exact ⟨v, a1, i, j, a2, a3, c, a4, hq _ _ a5⟩
end
end Bz
end
section
set_option Elab.async false
set_option linter.all false
set_option maxRecDepth 100000
set_option maxHeartbeats 4000000
namespace Bz
open PySem PySem.Spec PyProof.Rows L2 LamX NdefX
/-! ### Grid -/
structure GrC (K : PySem.W.Frag) (C : Addr) : Prop where
  cl : Cls K C
  nF : NoAttr K C "figures"
  nG : NoAttr K C "goals"
  nM : NoAttr K C "marks"
def oV : Option Nat → V
  | none => .non
  | some k => .int (k : Nat)
abbrev grFs (b : Nat) (pg pm : Addr) : List (Str × V) := [("figures", .int b), ("goals", .ref pg), ("marks", .ref pm)]
theorem s_fg : ¬ (("figures" : Str) = "goals") := by decide +kernel
theorem s_fm : ¬ (("figures" : Str) = "marks") := by decide +kernel
theorem s_gm : ¬ (("goals" : Str) = "marks") := by decide +kernel
theorem s_gf : ¬ (("goals" : Str) = "figures") := by decide +kernel
theorem s_mf : ¬ (("marks" : Str) = "figures") := by decide +kernel
theorem s_mg : ¬ (("marks" : Str) = "goals") := by decide +kernel
theorem gr_put (b : Nat) (x y : V) : putF "marks" y (putF "goals" x (putF "figures" (.int b) [])) = ([("figures", V.int b), ("goals", x), ("marks", y)] : List (Str × V)) := by
  show putF "marks" y (if ("figures" : Str) = "goals" then (("figures" : Str), x) :: [] else (("figures" : Str), V.int b) :: [("goals", x)]) = ([("figures", V.int b), ("goals", x), ("marks", y)] : List (Str × V))
  rw [if_neg s_fg]
  show (if ("figures" : Str) = "marks" then (("figures" : Str), y) :: [("goals", x)] else (("figures" : Str), V.int b) :: (if ("goals" : Str) = "marks" then (("goals" : Str), y) :: [] else (("goals" : Str), x) :: [("marks", y)])) = ([("figures", V.int b), ("goals", x), ("marks", y)] : List (Str × V))
  rw [if_neg s_fm, if_neg s_gm]
theorem gr_F (b : Nat) (pg pm : Addr) : (grFs b pg pm).lookup ("figures" : Str) = some (.int b) := by
  show List.lookup ("figures" : Str) ((("figures" : Str), V.int b) :: _) = _
  rw [List.lookup_cons, beq_self_eq_true]
theorem lk_ne {a b : Str} (h : ¬ a = b) (v : V) (r : List (Str × V)) : List.lookup a ((b, v) :: r) = List.lookup a r := by
  rw [List.lookup_cons, beq_eq_false_iff_ne.mpr h]
theorem lk_eq (a : Str) (v : V) (r : List (Str × V)) : List.lookup a ((a, v) :: r) = some v := by
  rw [List.lookup_cons, beq_self_eq_true]
theorem gr_G (b : Nat) (pg pm : Addr) : (grFs b pg pm).lookup ("goals" : Str) = some (.ref pg) := by
  rw [lk_ne s_gf, lk_eq]
theorem gr_M (b : Nat) (pg pm : Addr) : (grFs b pg pm).lookup ("marks" : Str) = some (.ref pm) := by
  rw [lk_ne s_mf, lk_ne s_mg, lk_eq]
theorem gr_no (b : Nat) (pg pm : Addr) {m : Str} (h1 : ¬ m = "figures") (h2 : ¬ m = "goals") (h3 : ¬ m = "marks") : (grFs b pg pm).lookup m = none := by
  rw [lk_ne h1, lk_ne h2, lk_ne h3] <;> rfl
abbrev Rows := List (List (Option Nat))
/-- a list of lists of states -/
def RowsAt (H : Hp) (p : Addr) (g : Rows) : Prop := ∃ as : List Addr, H p = some (.lst (as.map V.ref)) ∧ as.length = g.length ∧ ∀ (i : Nat) (r : List (Option Nat)), g[i]? = some r → ∃ q, as[i]? = some q ∧ H q = some (.lst (r.map oV))
/-- a Grid: base, rows, marks of the states from 1 on -/
def GridAt (C : Addr) (H : Hp) (a : Addr) (b : Nat) (g : Rows) (ms : List V) : Prop := ∃ dx pg pm, H a = some (.ins C dx (grFs b pg pm)) ∧ RowsAt H pg g ∧ H pm = some (.lst (.non :: ms))
/-- lists, tuples, instances stay -/
def Sol : HO → Prop
  | .tbl _ => False
  | .ext _ => False
  | _ => True
structure Kp (H H' : Hp) : Prop where
  imm : ∀ a o, H a = some o → Sol o → H' a = some o
  dom : ∀ a, H' a = none → H a = none
theorem Kp.refl (H : Hp) : Kp H H := ⟨fun _ _ h _ => h, fun _ h => h⟩
theorem Kp.trans {H H1 H2 : Hp} (a : Kp H H1) (b : Kp H1 H2) : Kp H H2 := ⟨fun x o h s => b.imm x o (a.imm x o h s) s, fun x h => a.dom x (b.dom x h)⟩
theorem Sm.kp {H H' : Hp} (e : Sm H H') : Kp H H' := ⟨fun a o h _ => e.at_ a o h, fun _ h => e.free h⟩
theorem Kp.lst {H H' : Hp} (e : Kp H H') {p : Addr} {xs : List V} (h : H p = some (.lst xs)) : H' p = some (.lst xs) := e.imm _ _ h True.intro
theorem Kp.tup {H H' : Hp} (e : Kp H H') {p : Addr} {xs : List V} (h : H p = some (.tup xs)) : H' p = some (.tup xs) := e.imm _ _ h True.intro
theorem Kp.ins {H H' : Hp} (e : Kp H H') {p C dx : Addr} {fs : List (Str × V)} (h : H p = some (.ins C dx fs)) : H' p = some (.ins C dx fs) := e.imm _ _ h True.intro
theorem Kp.sq {H H' : Hp} {K : PySem.W.Frag} (e : Kp H H') {p : Addr} {xs : List V} (h : SqL K H p xs) : SqL K H' p xs := by
  rcases h with (h | ⟨o, h⟩) | h
  · exact .inl (.inl (e.imm _ _ h True.intro))
  · exact .inl (.inr ⟨o, e.imm _ _ h True.intro⟩)
  · exact .inr h
theorem Kp.st {H H' : Hp} {K : PySem.W.Frag} (e : Kp H H') {p : Addr} {xs : List V} (h : SqT K H p xs) : SqT K H' p xs := by
  rcases h with (h | ⟨o, h⟩) | h
  · exact .inl (.inl (e.imm _ _ h True.intro))
  · exact .inl (.inr ⟨o, e.imm _ _ h True.intro⟩)
  · exact .inr h
theorem RowsAt.kp {H H' : Hp} (e : Kp H H') {p : Addr} {g : Rows} (h : RowsAt H p g) : RowsAt H' p g := by
  obtain ⟨as, h1, h2, h3⟩ := h
  exact ⟨as, e.lst h1, h2, fun i r hr => let ⟨q, a, b⟩ := h3 i r hr; ⟨q, a, e.lst b⟩⟩
theorem GridAt.kp {C : Addr} {H H' : Hp} (e : Kp H H') {a : Addr} {b : Nat} {g : Rows} {ms : List V} (h : GridAt C H a b g ms) : GridAt C H' a b g ms := by
  obtain ⟨dx, pg, pm, h1, h2, h3⟩ := h
  exact ⟨dx, pg, pm, e.ins h1, h2.kp e, e.lst h3⟩
theorem rows_get {g : Rows} {s f : Nat} {t : Nat} (h : ent g s f = some t) : ∃ r : List (Option Nat), g[s]? = some r ∧ r[f]? = some (some t) := by
  unfold ent at h
  cases e : g[s]? with
  | none => rw [e] at h; simp at h
  | some r =>
    rw [e] at h
    refine ⟨r, rfl, ?_⟩
    have h' : (r[f]?).getD none = some t := h
    cases e2 : r[f]? with
    | none => rw [e2] at h'; cases h'
    | some x => rw [e2] at h'; have h' : x = some t := h'; rw [h']
section
variable {P : Program} {w : World} {K : PySem.W.Frag} {mg : Str → Option Value} {base : Heap}
abbrev N_Grid__init_ : List Str := ["self", "figures", "goals", "marks"]
theorem sc_Grid__init_ : FnScope N_Grid__init_ ["self", "figures", "goals", "marks"] (defScope s_Grid__init_) := ⟨rfl, rfl, rfl, by decide +kernel, rfl, by decide +kernel, by decide +kernel⟩
theorem hb_Grid__init_ : HB s_Grid__init_ "__init__" "Grid.__init__" ["self", "figures", "goals", "marks"] := fun _ _ _ _ _ _ us hl => match us, hl with | [_, _, _, _], _ => rfl

def spGridInit (C : Addr) : Sp := fun vs H Q _ => ∃ (p dx : Addr) (b : Nat) (x y : V), vs = [.ref p, .int b, x, y] ∧ H p = some (.ins C dx []) ∧ Q .non (upd H p (.ins C dx [("figures", .int b), ("goals", x), ("marks", y)]))
theorem g_Grid_init {f C : Addr} (c : GrC K C) (D : Df K "__init__" "Grid.__init__" s_Grid__init_ f) (m : Mk K C f) (mc : mg "Grid" = some (.ref C)) : Mkr P w K mg base CXN 1 C "Grid" ["self", "figures", "goals", "marks"] (spGridInit C) := by
  refine D.mkr m mc sc_Grid__init_ hb_Grid__init_ (fun vs H Q E ⟨p, dx, b, x, y, e, _⟩ => by rw [e]; rfl) fun cdv A outer s H vs Q E hr ⟨p, dx, b, x, y, e, hp, k_⟩ => ?_
  subst e
  refine ⟨_, (pss_cons (ps_fld (pv 0) (pv 1) rfl)
    (pss_cons (ps_fld (pv 0) (pv 2) rfl)
    (pss_one (ps_fld (pv 0) (pv 3) rfl)))), ?_⟩
  refine ⟨_, rfl, _, rfl, p, C, dx, _, rfl, hp, c.cl, c.nF, by show 0 < 1000; decide, ?_⟩
  refine ⟨_, rfl, _, rfl, p, C, dx, _, rfl, upd_same, c.cl, c.nG, by show 1 < 1000; decide, ?_⟩
  refine ⟨_, rfl, _, rfl, p, C, dx, _, rfl, upd_same, c.cl, c.nM, ?_, ?_⟩
  · show (putF "goals" x (putF "figures" (.int b) [])).length < 1000
    show (if ("figures" : Str) = "goals" then (("figures" : Str), x) :: [] else (("figures" : Str), V.int b) :: [("goals", x)]).length < 1000
    rw [if_neg s_fg]
    show 2 < 1000
    decide
  · rw [upd_upd, upd_upd, gr_put]
    exact k_
abbrev N_Grid_end_of : List Str := ["self", "number", "state", "figure"]
theorem sc_Grid_end_of : FnScope N_Grid_end_of ["self", "number"] (defScope s_Grid_end_of) := ⟨rfl, rfl, rfl, by decide +kernel, rfl, by decide +kernel, by decide +kernel⟩
theorem hb_Grid_end_of : HB s_Grid_end_of "end_of" "Grid.end_of" ["self", "number"] := fun _ _ _ _ _ _ us hl => match us, hl with | [_, _], _ => rfl

/-- grid.end_of(number) -/
def spEndOf (C : Addr) : Sp := fun vs H Q _ => ∃ (a : Addr) (n b m : Nat) (g : Rows) (ms : List V), vs = [.ref a, .int n] ∧ GridAt C H a b g ms ∧ 2 ≤ b ∧ b ≤ 16 ∧ Wf b m g ∧ n < 2 ^ 3000 ∧ ∀ H', Sm H H' → Q (.int (run g b n)) H'
theorem figs_len {b n : Nat} (hb : 2 ≤ b) : ∀ k, n < 2 ^ k → (figs b n).length ≤ k := by
  intro k
  induction k generalizing n with
  | zero => intro h; have : n = 0 := by simpa using h
            subst this; simp [figs_zero]
  | succ k ih =>
    intro h
    by_cases h0 : n = 0
    · subst h0; simp [figs_zero]
    · rw [figs_pos hb (by omega), List.length_append, List.length_singleton]
      have : n / b < 2 ^ k := by
        rw [Nat.div_lt_iff_lt_mul (by omega)]
        rw [Nat.pow_succ] at h
        have : 2 ^ k * 2 ≤ 2 ^ k * b := Nat.mul_le_mul_left _ hb
        omega
      have := ih this
      omega
theorem figs_first {b n : Nat} (hb : 2 ≤ b) (h : 0 < n) : ∃ f r, figs b n = f :: r ∧ 0 < f := by
  induction n using Nat.strongRecOn with
  | ind n ih =>
    obtain ⟨e, h1, h2, h3⟩ := split_num hb h
    rw [figs_pos hb h]
    by_cases hq : 0 < n / b
    · obtain ⟨f, r, e1, e2⟩ := ih (n / b) h3 hq
      exact ⟨f, r ++ [n % b], by rw [e1] <;> rfl, e2⟩
    · have h0 : n / b = 0 := Nat.eq_zero_of_not_pos hq
      refine ⟨n % b, [], by rw [h0, figs_zero] <;> rfl, ?_⟩
      rcases h2 with h2 | h2
      · exact absurd h2 hq
      · exact h2
theorem run_take {b m : Nat} {g : Rows} (w : Wf b m g) (hb : 2 ≤ b) {n : Nat} : ∀ (i f : Nat), (figs b n)[i]? = some f → (0 < ((figs b n).take i).foldl (nxt g) 0 ∨ 0 < f) ∧ f < b ∧ ((figs b n).take i).foldl (nxt g) 0 ≤ m := by
  intro i f h
  have hn : 0 < n := by
    apply Nat.pos_of_ne_zero
    intro e
    subst e
    rw [figs_zero] at h
    cases h
  have lt : f < b := figs_lt hb n f (List.mem_of_getElem? h)
  obtain ⟨f0, r, e, hf0⟩ := figs_first hb hn
  have all : ∀ x ∈ figs b n, x < b := figs_lt hb n
  rw [e] at h all ⊢
  cases i with
  | zero =>
    simp at h
    subst h
    exact ⟨.inr hf0, lt, Nat.zero_le _⟩
  | succ i =>
    rw [List.take_succ_cons, List.foldl_cons]
    have key : ∀ (l : List Nat) (s : Nat), 1 ≤ s → s ≤ m → (∀ x ∈ l, x < b) → 1 ≤ l.foldl (nxt g) s ∧ l.foldl (nxt g) s ≤ m := by
      intro l
      induction l with
      | nil => intro s h1 h2 _; exact ⟨h1, h2⟩
      | cons x l ih =>
        intro s h1 h2 hx
        obtain ⟨a, c⟩ := w.nxt h2 (hx x List.mem_cons_self) (.inl h1)
        exact ih _ a c fun y hy => hx y (List.mem_cons_of_mem _ hy)
    obtain ⟨a, c⟩ := w.nxt (Nat.zero_le m) (all f0 List.mem_cons_self) (.inr hf0)
    obtain ⟨a2, c2⟩ := key (r.take i) _ a c fun x hx => all x (List.mem_cons_of_mem _ (List.mem_of_mem_take hx))
    exact ⟨.inl a2, lt, c2⟩
theorem g_end_of {f C : Addr} (T : Bt mg) (c : GrC K C) (D : Df K "end_of" "Grid.end_of" s_Grid_end_of f) (m : Meth K C "end_of" f) (G1 : Fn P w K mg base CXN 1 "figures_of" ["number", "base"] spFigures) : Mt P w K mg base CXN 2 C "end_of" ["self", "number"] (spEndOf C) := by
  refine D.mt m sc_Grid_end_of hb_Grid_end_of (fun vs H Q E ⟨a, n, b, m, g, ms, e, _⟩ => by rw [e]; rfl) fun cdv A outer s H vs Q E hr ⟨a, n, b, m, g, ms, e, hg, hb, hb2, wf, hn, k_⟩ => ?_
  subst e
  refine ⟨_, (pss_cons (ps_set (i := 2) sc_Grid_end_of.nd rfl (Or.inl rfl) pe_int)
    (pss_cons (ps_for PassesOwn.never rfl (pi_listK (K := K) rfl (pe_fn G1 hr (by rfl) pass0 (pa_cons (pv 1) (pa_cons (pe_fldK (K := K) rfl (pv 0) rfl) pa_nil)))) (pg_name (i := 3) sc_Grid_end_of.nd rfl (Or.inl rfl)) (pss_one (ps_set (i := 2) sc_Grid_end_of.nd rfl (Or.inl rfl) (pe_ix (ix_listK (K := K) rfl) (pe_ix (ix_listK (K := K) rfl) (pe_fldK (K := K) rfl (pv 0) rfl) (pv 2) (fun _ _ => rfl)) (pv 3) (fun _ _ => rfl)))))
    (pss_one (ps_ret (pv 2))))), ?_⟩
  obtain ⟨dx, pg, pm, ha, ⟨as, hr1, hr2, hr3⟩, hm⟩ := id hg
  refine ⟨_, rfl, _, rfl, a, C, dx, _, _, rfl, ha, c.cl, c.nF, gr_F b pg pm, n, b, rfl, hb, hb2, hn, fun l H1 hl e1 hl1 => ?_⟩
  refine ⟨l, rfl, ⟨_, SqL.of hl1⟩, for_list (K := K) (a := l) (xs := nV (figs b n)) (fun i σ H' => ∃ o, σ = [some (.ref a), some (.int n), some (.int (((figs b n).take i).foldl (nxt g) 0 : Nat)), o] ∧ Sm H1 H')
    ⟨_, rfl, Sm.refl H1⟩ (fun i σ H' _ ⟨_, _, e⟩ => SqL.of (e.lst hl1)) ?_ ?_⟩
  · rintro i y σ H' hi ⟨o, rfl, e2⟩
    have e12 := Sm.trans e1 e2
    obtain ⟨f, hf, rfl⟩ : ∃ f : Nat, (figs b n)[i]? = some f ∧ y = .int (f : Nat) := by
      rw [List.getElem?_map] at hi
      cases e : (figs b n)[i]? with
      | none => rw [e] at hi; cases hi
      | some f => rw [e] at hi; exact ⟨f, rfl, (Option.some.inj hi).symm⟩
    obtain ⟨h1, h2, h3⟩ := run_take wf hb i f hf
    generalize hst : ((figs b n).take i).foldl (nxt g) 0 = st at *
    obtain ⟨t, et, t1, t2⟩ := wf.ent st f h3 h2 h1
    obtain ⟨r, er, ef⟩ := rows_get et
    obtain ⟨q, eq, hq⟩ := hr3 st r er
    refine ⟨_, rfl, a, C, dx, _, _, rfl, e12.lst ha, c.cl, c.nG, gr_G b pg pm, _, rfl, pg, _, (st : Int), _, rfl, rfl, SqL.of (e12.lst hr1), atI_nat (v := .ref q) (by rw [List.getElem?_map, eq] <;> rfl), ?_⟩
    refine ⟨_, rfl, q, _, (f : Int), _, rfl, rfl, SqL.of (e12.lst hq), atI_nat (v := .int (t : Nat)) (by rw [List.getElem?_map, ef]; rfl), ?_⟩
    refine ⟨some (.int (f : Nat)), ?_, e2⟩
    have ht : ((figs b n).take (i + 1)).foldl (nxt g) 0 = t := by
      rw [List.take_add_one, hf]
      show ((figs b n).take i ++ [f]).foldl (nxt g) 0 = t
      rw [List.foldl_append, hst]
      show nxt g st f = t
      unfold nxt
      rw [et] <;> rfl
    rw [ht]
    rfl
  · rintro σ H' ⟨o, rfl, e2⟩
    refine ⟨_, rfl, ?_⟩
    have hl2 : (nV (figs b n)).length = (figs b n).length := List.length_map ..
    rw [hl2, List.take_length]
    exact k_ H' (Sm.trans e1 e2)
abbrev N_Grid_mark_of : List Str := ["self", "number"]
theorem sc_Grid_mark_of : FnScope N_Grid_mark_of ["self", "number"] (defScope s_Grid_mark_of) := ⟨rfl, rfl, rfl, by decide +kernel, rfl, by decide +kernel, by decide +kernel⟩
theorem hb_Grid_mark_of : HB s_Grid_mark_of "mark_of" "Grid.mark_of" ["self", "number"] := fun _ _ _ _ _ _ us hl => match us, hl with | [_, _], _ => rfl

/-- grid.mark_of(number) -/
def spMarkOf (C : Addr) : Sp := fun vs H Q _ => ∃ (a : Addr) (n b m : Nat) (g : Rows) (ms : List V), vs = [.ref a, .int n] ∧ GridAt C H a b g ms ∧ 2 ≤ b ∧ b ≤ 16 ∧ Wf b m g ∧ 0 < n ∧ n < 2 ^ 3000 ∧ m = ms.length ∧ ∀ H' v, Sm H H' → ms[run g b n - 1]? = some v → Q v H'
theorem g_mark_of {f C : Addr} (T : Bt mg) (c : GrC K C) (D : Df K "mark_of" "Grid.mark_of" s_Grid_mark_of f) (m : Meth K C "mark_of" f) (G1 : Mt P w K mg base CXN 2 C "end_of" ["self", "number"] (spEndOf C)) : Mt P w K mg base CXN 3 C "mark_of" ["self", "number"] (spMarkOf C) := by
  refine D.mt m sc_Grid_mark_of hb_Grid_mark_of (fun vs H Q E ⟨a, n, b, m, g, ms, e, _⟩ => by rw [e]; rfl) fun cdv A outer s H vs Q E hr ⟨a, n, b, m, g, ms, e, hg, hb, hb2, wf, hn0, hn, hm, k_⟩ => ?_
  subst e
  have c := c
  refine ⟨_, (pss_one (ps_ret (pe_ix ix_list (pe_fld (pv 0) rfl) (pe_mt G1 c.cl hr (pv 0) pass0 (pa_cons (pv 1) pa_nil)) (fun _ _ => rfl)))), ?_⟩
  obtain ⟨dx, pg, pm, ha, hr1, hm1⟩ := id hg
  refine ⟨_, rfl, a, C, dx, _, _, rfl, ha, c.cl, c.nM, gr_M b pg pm, _, rfl, a, dx, _, rfl, ha, gr_no b pg pm (by decide +kernel) (by decide +kernel) (by decide +kernel), _, rfl, a, n, b, m, g, ms, rfl, hg, hb, hb2, wf, hn, fun H' e1 => ?_⟩
  obtain ⟨r1, r2⟩ := wf.run hb n hn0
  obtain ⟨v, hv⟩ : ∃ v, ms[run g b n - 1]? = some v := ⟨_, List.getElem?_eq_getElem (by omega)⟩
  refine ⟨pm, _, _, v, rfl, rfl, SqL.of (e1.lst hm1), atI_nat ?_, k_ H' v e1 hv⟩
  obtain ⟨j, hj⟩ : ∃ j, run g b n = j + 1 := ⟨run g b n - 1, by omega⟩
  rw [hj] at hv ⊢
  exact hv
end
end Bz
end
section
set_option Elab.async false
set_option linter.all false
set_option maxRecDepth 100000
set_option maxHeartbeats 4000000
namespace Bz
open PySem PySem.Spec PyProof.Rows L2 LamX NdefX
section
variable {P : Program} {w : World} {K : PySem.W.Frag} {mg : Str → Option Value} {base : Heap}
/-- a list of things that are keys -/
def KeysAre {S : Type} [DecidableEq S] (ki : KI S) (H : Hp) (xs : List V) (ks : List S) : Prop := xs.length = ks.length ∧ ∀ (i : Nat) (x : V) (k : S), xs[i]? = some x → ks[i]? = some k → ki.kv k H x
theorem KeysAre.keep {S : Type} [DecidableEq S] {ki : KI S} {H H' : Hp} {xs : List V} {ks : List S} (h : KeysAre ki H xs ks) (e : ∀ b ys, H b = some (.tup ys) → H' b = some (.tup ys)) : KeysAre ki H' xs ks :=
  ⟨h.1, fun i x k a b => ki.keep e (h.2 i x k a b)⟩
abbrev N_numbered : List Str := ["things", "known", "thing"]
theorem sc_numbered : FnScope N_numbered ["things"] (defScope s_numbered) := ⟨rfl, rfl, rfl, by decide +kernel, rfl, by decide +kernel, by decide +kernel⟩
theorem hb_numbered : HB s_numbered "numbered" "numbered" ["things"] := fun _ _ _ _ _ _ us hl => match us, hl with | [_], _ => rfl

/-- numbered(things) -/
def spNumbered {S : Type} [DecidableEq S] (ki : KI S) (P : Program) (w : World) (K : PySem.W.Frag) : Sp := fun vs H Q _ => ∃ (a : Addr) (xs : List V) (ks : List S), vs = [.ref a] ∧ SqL K H a xs ∧ KeysAre ki H xs ks ∧ ks.length ≤ 100000 ∧
  ∀ p H', H p = none → Sm H H' → H' p = some (ki.ho P w p (numsK 0 (dd ks))) → Q (.ref p) H'
theorem g_numbered {S : Type} [DecidableEq S] (ki : KI S) {f : Addr} (T : Bt mg) (D : Df K "numbered" "numbered" s_numbered f) (m : mg "numbered" = some (.ref f)) : Fn P w K mg base CXN 1 "numbered" ["things"] (spNumbered ki P w K) := by
  refine D.fn m sc_numbered hb_numbered (fun vs H Q E ⟨a, xs, ks, e, _⟩ => by rw [e]; rfl) fun cdv A outer s H vs Q E hr ⟨a, xs, ks, e, hx, hk, hlen, k_⟩ => ?_
  subst e
  have hu := hu_of hr
  refine ⟨_, (pss_cons (ps_set (i := 1) sc_numbered.nd rfl (Or.inl rfl) (ki.new _ _))
    (pss_cons (ps_for PassesOwn.never rfl (pi_listK (K := K) rfl (pv 0)) (pg_name (i := 2) sc_numbered.nd rfl (Or.inl rfl)) (pss_one (ps_if (pt_cmp (pc_knotin ki (P := P) (w := w) ⟨rfl, rfl⟩ hu (pv 2) (pv 1)) rfl) (pss_one (ps_kput ki (P := P) (w := w) ⟨rfl, rfl⟩ hu (pv 1) (pv 2) (pe_callB (call_klen ki (P := P) (w := w) ⟨rfl, rfl⟩) (by rfl) T.len PySem.boot_len (pa_cons (pv 1) pa_nil)) rfl)) pss_nil)))
    (pss_one (ps_ret (pv 1))))), ?_⟩
  intro p hp
  refine ⟨_, rfl, a, rfl, ⟨_, (Sm.new hp).seq hx⟩, for_list (K := K) (a := a) (xs := xs) (fun i σ H' => ∃ o, σ = [some (.ref a), some (.ref p), o] ∧ Sm H H' ∧ H' p = some (ki.ho P w p (numsK 0 (dd (ks.take i)))))
    ⟨none, rfl, Sm.new hp, upd_same⟩ (fun i σ H' _ ⟨_, _, e, _⟩ => e.seq hx) ?_ ?_⟩
  · rintro i y σ H1 hi ⟨o, rfl, e1, h1⟩
    have hil : i < ks.length := by rw [← hk.1]; exact (List.getElem?_eq_some_iff.mp hi).1
    obtain ⟨k, hki⟩ : ∃ k, ks[i]? = some k := ⟨_, List.getElem?_eq_getElem hil⟩
    have kv : ki.kv k H1 y := ki.keep (fun b ys => e1.at_ b _) (hk.2 i y k hi hki)
    have et : ks.take (i + 1) = ks.take i ++ [k] := by rw [List.take_add_one, hki] <;> rfl
    refine ⟨_, rfl, _, rfl, p, _, k, rfl, h1, kv, _, rfl, ?_⟩
    have hle := dd_len (ks.take i)
    rw [List.length_take] at hle
    refine ifv (fun h => ?_) (fun h => ?_)
    · have hn : k ∉ dd (ks.take i) := fun z => by
        rw [numsK_some _ (dd_nodup _) z] at h
        cases h
      refine ⟨_, rfl, p, _, rfl, h1, _, rfl, _, rfl, p, _, k, rfl, h1, kv, by rw [numsK_len]; exact sz_lt (by omega), ?_⟩
      refine ⟨_, rfl, Sm.mut e1 hp, ?_⟩
      rw [upd_same, et, dd_snoc, putK_new _ (numsK_none hn), numsK_len]
      unfold ddS
      rw [if_neg hn, numsK_snoc]
      rfl
    · have hy : k ∈ dd (ks.take i) := by
        apply Classical.byContradiction
        intro z
        rw [numsK_none z] at h
        cases h
      refine ⟨_, rfl, e1, ?_⟩
      rw [h1, et, dd_snoc]
      unfold ddS
      rw [if_pos hy]
  · rintro σ H1 ⟨o, rfl, e1, h1⟩
    refine ⟨_, rfl, ?_⟩
    rw [hk.1, List.take_length] at h1
    exact k_ p H1 hp e1 h1
end
end Bz
end
section
set_option Elab.async false
set_option linter.all false
set_option maxRecDepth 100000
set_option maxHeartbeats 4000000
namespace Bz
open PySem PySem.Spec PyProof.Rows L2 LamX NdefX
/-! ### exploring, row by row: the parts -/
section
variable {S : Type} [DecidableEq S]
def figUp (s f : Nat) : List Nat := if s = 0 then (List.range f).drop 1 else List.range f
theorem figUp_succ (s f : Nat) : figUp s (f + 1) = if s = 0 ∧ f = 0 then [] else figUp s f ++ [f] := by
  unfold figUp
  by_cases h : s = 0
  · rw [if_pos h, if_pos h]
    by_cases h2 : f = 0
    · rw [if_pos ⟨h, h2⟩, h2]; rfl
    · rw [if_neg fun z => h2 z.2, List.range_succ, List.drop_append_of_le_length (by simp; omega)]
  · rw [if_neg h, if_neg h, if_neg fun z => h z.1, List.range_succ]
variable (b : Nat) (stp : Option S → Nat → S)
/-- what is met by the row s up to the figure f -/
def upTo (s f : Nat) : List S := seen b stp s ++ (figUp s f).map (stp (prevO (dd (seen b stp s)) s))
theorem upTo_zero (s : Nat) : upTo b stp s 0 = seen b stp s := by
  unfold upTo figUp; split <;> simp
theorem upTo_all (s : Nat) : upTo b stp s b = seen b stp (s + 1) := rfl
theorem upTo_skip {s f : Nat} (h : s = 0 ∧ f = 0) : upTo b stp s (f + 1) = upTo b stp s f := by
  obtain ⟨rfl, rfl⟩ := h
  unfold upTo
  rw [figUp_succ, if_pos ⟨rfl, rfl⟩]
  rfl
theorem upTo_succ {s f : Nat} (h : ¬ (s = 0 ∧ f = 0)) : upTo b stp s (f + 1) = upTo b stp s f ++ [stp (prevO (dd (seen b stp s)) s) f] := by
  unfold upTo
  rw [figUp_succ, if_neg h, List.map_append, List.append_assoc] <;> rfl
theorem seen_upTo (s f : Nat) : ∃ r, upTo b stp s f = seen b stp s ++ r := ⟨_, rfl⟩
/-- the row's items so far -/
def rowUp (s f : Nat) : List (Option Nat) := (List.range f).map fun k => if s = 0 ∧ k = 0 then none else some (ix (seen b stp (s + 1)) (stp (prevO (dd (seen b stp s)) s) k) + 1)
theorem rowUp_succ (s f : Nat) : rowUp b stp s (f + 1) = rowUp b stp s f ++ [if s = 0 ∧ f = 0 then none else some (ix (seen b stp (s + 1)) (stp (prevO (dd (seen b stp s)) s) f) + 1)] := by
  unfold rowUp; rw [List.range_succ, List.map_append] <;> rfl
theorem upTo_mem {s f k : Nat} (hk : k < f) (h : ¬ (s = 0 ∧ k = 0)) : stp (prevO (dd (seen b stp s)) s) k ∈ upTo b stp s f := by
  unfold upTo figUp
  refine List.mem_append_right _ (List.mem_map_of_mem ?_)
  split
  · rename_i h0
    rw [List.mem_drop_iff_getElem]
    refine ⟨k - 1, by simp; omega, ?_⟩
    simp
    omega
  · simp; exact hk
theorem upTo_pre {s f : Nat} (h : f ≤ b) : ∃ r, seen b stp (s + 1) = upTo b stp s f ++ r := by
  have key : ∀ d, ∃ r, upTo b stp s (f + d) = upTo b stp s f ++ r := by
    intro d
    induction d with
    | zero => exact ⟨[], by simp⟩
    | succ d ih =>
      obtain ⟨r, hr⟩ := ih
      by_cases h : s = 0 ∧ f + d = 0
      · exact ⟨r, by rw [← Nat.add_assoc, upTo_skip b stp h, hr]⟩
      · exact ⟨r ++ [stp (prevO (dd (seen b stp s)) s) (f + d)], by rw [← Nat.add_assoc, upTo_succ b stp h, hr, List.append_assoc]⟩
  obtain ⟨r, hr⟩ := key (b - f)
  rw [Nat.add_sub_cancel' h, upTo_all] at hr
  exact ⟨r, hr⟩
/-- the finished row, told by all that is met in the end -/
theorem rowUp_done {m s : Nat} (hb : 2 ≤ b) (d : Done b stp m) (hs : s ≤ m) : rowUp b stp s b = rowOf b stp (dd (seen b stp (m + 1))) (seen b stp (m + 1)) s := by
  unfold rowUp rowOf
  apply List.map_congr_left
  intro f hf
  have hf : f < b := List.mem_range.mp hf
  by_cases h : s = 0 ∧ f = 0
  · rw [if_pos h, if_pos h]
  · rw [if_neg h, if_neg h]
    have e : prevO (dd (seen b stp (m + 1))) s = prevO (dd (seen b stp s)) s := prevO_pre (dd_seen_pre b stp (by omega)) (d.at_ s hs)
    rw [e]
    obtain ⟨r, hr⟩ := seen_pre b stp (show s + 1 ≤ m + 1 by omega)
    have hm : stp (prevO (dd (seen b stp s)) s) f ∈ seen b stp (s + 1) := by
      rw [← upTo_all]; exact upTo_mem b stp hf h
    rw [hr, ix_append hm]
end
section
variable {P : Program} {w : World} {K : PySem.W.Frag} {mg : Str → Option Value} {base : Heap}
/-- a state as it is handed to step -/
def OptKv {S : Type} [DecidableEq S] (ki : KI S) (o : Option S) (H : Hp) (v : V) : Prop := match o with
  | none => v = .non
  | some s => ki.kv s H v
def spStep {S : Type} [DecidableEq S] (ki : KI S) (b : Nat) (U : S → Prop) (stp : Option S → Nat → S) : Sp := fun vs H Q _ => ∃ (v : V) (f : Nat) (o : Option S), vs = [v, .int f] ∧ f < b ∧ OptKv ki o H v ∧ (∀ s, o = some s → U s) ∧ (o = none → 0 < f) ∧
  ∀ H' v', Sm H H' → ki.kv (stp o f) H' v' → Q v' H'
def spMark {S M : Type} [DecidableEq S] [DecidableEq M] (ki : KI S) (km : KI M) (U : S → Prop) (mk : S → M) : Sp := fun vs H Q _ => ∃ (v : V) (s : S), vs = [v] ∧ ki.kv s H v ∧ U s ∧ ∀ H' v', Sm H H' → km.kv (mk s) H' v' → Q v' H'
/-- explored(figures, step, mark) -/
def spExplored {S M : Type} [DecidableEq S] [DecidableEq M] (ki : KI S) (km : KI M) (P : Program) (w : World) (K : PySem.W.Frag) (mg : Str → Option Value) (base : Heap) (kc : Nat) : Sp := fun vs H Q _ => ∃ (b : Nat) (fs fm : Addr) (U : S → Prop) (Ul : List S) (stp : Option S → Nat → S) (mk : S → M),
  vs = [.int b, .ref fs, .ref fm] ∧ Clo P w K mg base kc H fs (spStep ki b U stp) ∧ Clo P w K mg base kc H fm (spMark ki km U mk) ∧ 2 ≤ b ∧ b ≤ 16 ∧ (∀ x, U x → x ∈ Ul) ∧ Ul.length ≤ 50000 ∧
  (∀ o f, f < b → (∀ s, o = some s → U s) → (o = none → 0 < f) → U (stp o f)) ∧
  ∀ m p pr pm ms H', Done b stp m → m ≤ Ul.length → (∀ x ∈ seen b stp (m + 1), U x) → H p = none → Sm H H' → H' p = some (.tup [.ref pr, .ref pm]) → H pr = none → RowsAt H' pr (gridOf b stp (m + 1) (seen b stp (m + 1))) → H pm = none → H' pm = some (.lst (.non :: ms)) →
    KeysAre km H' ms ((dd (seen b stp (m + 1))).map mk) → Q (.ref p) H'
abbrev N_explored : List Str := ["figures", "step", "mark", "order", "numbers", "rows", "place", "row", "figure", "later", "state"]
theorem sc_explored : FnScope N_explored ["figures", "step", "mark"] (defScope s_explored) := ⟨rfl, rfl, rfl, by decide +kernel, rfl, by decide +kernel, by decide +kernel⟩
theorem hb_explored : HB s_explored "explored" "explored" ["figures", "step", "mark"] := fun _ _ _ _ _ _ us hl => match us, hl with | [_, _, _], _ => rfl

structure ExSt {S : Type} [DecidableEq S] (ki : KI S) (P : Program) (w : World) (H : Hp) (b : Nat) (stp : Option S → Nat → S) (U : S → Prop) (v0 : V) (po pd pr : Addr) (s : Nat) (Q : List S) (vals : List V) (as : List Addr) (H' : Hp) : Prop where
  sm : Sm H H'
  o0 : H po = none
  d0 : H pd = none
  r0 : H pr = none
  opr : po ≠ pr
  ord : H' po = some (.lst (v0 :: vals))
  num : H' pd = some (ki.ho P w pd (numsK 1 (dd Q)))
  rws : H' pr = some (.lst (as.map V.ref))
  keys : KeysAre ki H' vals (dd Q)
  alen : as.length = s
  rows : ∀ (i : Nat) (q : Addr), as[i]? = some q → q ≠ po ∧ q ≠ pr ∧ H q = none ∧ H' q = some (.lst ((rowUp b stp i b).map oV))
  ok : ∀ x ∈ Q, U x
theorem KeysAre.at_ {S : Type} [DecidableEq S] {ki : KI S} {H : Hp} {xs : List V} {ks : List S} (h : KeysAre ki H xs ks) {i : Nat} {k : S} (e : ks[i]? = some k) : ∃ x, xs[i]? = some x ∧ ki.kv k H x := by
  have hl : i < xs.length := by rw [h.1]; exact (List.getElem?_eq_some_iff.mp e).1
  exact ⟨_, List.getElem?_eq_getElem hl, h.2 i _ k (List.getElem?_eq_getElem hl) e⟩
theorem KeysAre.snoc {S : Type} [DecidableEq S] {ki : KI S} {H : Hp} {xs : List V} {ks : List S} (h : KeysAre ki H xs ks) {x : V} {k : S} (e : ki.kv k H x) : KeysAre ki H (xs ++ [x]) (ks ++ [k]) := by
  refine ⟨by simp [h.1], fun i y j a c => ?_⟩
  by_cases hi : i < xs.length
  · rw [List.getElem?_append_left hi] at a
    rw [List.getElem?_append_left (by rw [← h.1]; exact hi)] at c
    exact h.2 i y j a c
  · have hi2 : i = xs.length := by
      have := (List.getElem?_eq_some_iff.mp a).1
      simp at this; omega
    rw [hi2, List.getElem?_append_right (Nat.le_refl _), Nat.sub_self] at a
    rw [hi2, h.1, List.getElem?_append_right (Nat.le_refl _), Nat.sub_self] at c
    simp at a c
    rw [← a, ← c]
    exact e
section
variable {S : Type} [DecidableEq S] {ki : KI S} {H : Hp} {b : Nat} {stp : Option S → Nat → S} {U : S → Prop} {v0 : V} {po pd pr : Addr} {s : Nat} {Q : List S} {vals : List V} {as : List Addr} {H' H2 : Hp}
theorem ExSt.later (E : ExSt ki P w H b stp U v0 po pd pr s Q vals as H') (e : Sm H' H2) : ExSt ki P w H b stp U v0 po pd pr s Q vals as H2 :=
  ⟨E.sm.trans e, E.o0, E.d0, E.r0, E.opr, e.at_ _ _ E.ord, e.at_ _ _ E.num, e.at_ _ _ E.rws, E.keys.keep fun b ys => e.at_ b _, E.alen, fun i q h => let ⟨a, c, d, g⟩ := E.rows i q h; ⟨a, c, d, e.at_ _ _ g⟩, E.ok⟩
theorem ExSt.od (E : ExSt ki P w H b stp U v0 po pd pr s Q vals as H') : po ≠ pd := fun z => by
  have h := E.ord
  rw [z, E.num] at h
  exact ki.nl _ _ _ _ _ (Option.some.inj h)
theorem ExSt.rd (E : ExSt ki P w H b stp U v0 po pd pr s Q vals as H') : pr ≠ pd := fun z => by
  have h := E.rws
  rw [z, E.num] at h
  exact ki.nl _ _ _ _ _ (Option.some.inj h)
theorem ExSt.qd (E : ExSt ki P w H b stp U v0 po pd pr s Q vals as H') {i : Nat} {q : Addr} (hq : as[i]? = some q) : q ≠ pd := fun z => by
  have h := (E.rows i q hq).2.2.2
  rw [z, E.num] at h
  exact ki.nl _ _ _ _ _ (Option.some.inj h)
theorem ExSt.other (E : ExSt ki P w H b stp U v0 po pd pr s Q vals as H') {x : Addr} {o : HO} (hx : H x = none) (nt : ∀ ys, H' x ≠ some (.tup ys)) (n1 : x ≠ po) (n2 : x ≠ pd) (n3 : x ≠ pr) (n4 : ∀ (i : Nat) (q : Addr), as[i]? = some q → q ≠ x) :
    ExSt ki P w H b stp U v0 po pd pr s Q vals as (upd H' x o) := by
  refine ⟨E.sm.mut hx, E.o0, E.d0, E.r0, E.opr, by rw [upd_ne n1.symm]; exact E.ord, by rw [upd_ne n2.symm]; exact E.num, by rw [upd_ne n3.symm]; exact E.rws, E.keys.keep fun c ys h => ?_, E.alen, fun i q h => ?_, E.ok⟩
  · rw [upd_ne fun z => nt ys (by rw [← z]; exact h)]; exact h
  · obtain ⟨a, c, d, g⟩ := E.rows i q h
    exact ⟨a, c, d, by rw [upd_ne (n4 i q h)]; exact g⟩
theorem ExSt.add (E : ExSt ki P w H b stp U v0 po pd pr s Q vals as H') {x : S} {v : V} (hk : ki.kv x H' v) (hn : x ∉ dd Q) (ux : U x) :
    ExSt ki P w H b stp U v0 po pd pr s (Q ++ [x]) (vals ++ [v]) as (upd (upd H' pd (ki.ho P w pd (putK (numsK 1 (dd Q)) x (.int ((dd Q).length + 1 : Nat))))) po (.lst (v0 :: (vals ++ [v])))) := by
  have ed : dd (Q ++ [x]) = dd Q ++ [x] := by rw [dd_snoc]; unfold ddS; rw [if_neg hn]
  have tk : ∀ c ys, H' c = some (.tup ys) → upd (upd H' pd (ki.ho P w pd (putK (numsK 1 (dd Q)) x (.int ((dd Q).length + 1 : Nat))))) po (.lst (v0 :: (vals ++ [v]))) c = some (.tup ys) := fun c ys h => by
    have n1 : c ≠ po := fun z => by rw [z, E.ord] at h; cases h
    have n2 : c ≠ pd := fun z => by rw [z, E.num] at h; exact ki.nt _ _ _ _ _ (Option.some.inj h)
    rw [upd_ne n1, upd_ne n2]; exact h
  refine ⟨(E.sm.mut E.d0).mut E.o0, E.o0, E.d0, E.r0, E.opr, upd_same, ?_, ?_, ?_, E.alen, fun i q h => ?_, fun y hy => ?_⟩
  · rw [upd_ne E.od.symm, upd_same, putK_new _ (numsK_none hn), ed, numsK_snoc]
  · rw [upd_ne E.opr.symm, upd_ne E.rd]; exact E.rws
  · rw [ed]
    exact (E.keys.keep tk).snoc (ki.keep tk hk)
  · obtain ⟨a, c, d, g⟩ := E.rows i q h
    exact ⟨a, c, d, by rw [upd_ne a, upd_ne (E.qd h)]; exact g⟩
  · rcases List.mem_append.mp hy with h | h
    · exact E.ok y h
    · rw [List.mem_singleton.mp h]; exact ux
theorem ExSt.same (E : ExSt ki P w H b stp U v0 po pd pr s Q vals as H') {x : S} (hx : x ∈ dd Q) (ux : U x) : ExSt ki P w H b stp U v0 po pd pr s (Q ++ [x]) vals as H' := by
  have ed : dd (Q ++ [x]) = dd Q := by rw [dd_snoc]; unfold ddS; rw [if_pos hx]
  refine ⟨E.sm, E.o0, E.d0, E.r0, E.opr, E.ord, by rw [ed]; exact E.num, E.rws, by rw [ed]; exact E.keys, E.alen, E.rows, fun y hy => ?_⟩
  rcases List.mem_append.mp hy with h | h
  · exact E.ok y h
  · rw [List.mem_singleton.mp h]; exact ux
end
theorem g_explored {S M : Type} [DecidableEq S] [DecidableEq M] (ki : KI S) (km : KI M) {f : Addr} {kc : Nat} (T : Bt mg) (D : Df K "explored" "explored" s_explored f) (m : mg "explored" = some (.ref f)) :
    Fn P w K mg base CXN (kc + 1) "explored" ["figures", "step", "mark"] (spExplored ki km P w K mg base kc) := by
  refine D.fn m sc_explored hb_explored (fun vs H Q E ⟨b, fs, fm, U, Ul, stp, mk, e, _⟩ => by rw [e]; rfl) fun cdv A outer s H vs Q E hrC ⟨b, fs, fm, U, Ul, stp, mk, e, hcs, hcm, hb, hb2, hU, hUl, hcl, k_⟩ => ?_
  subst e
  have hu := hu_of hrC
  refine ⟨_, (pss_cons (ps_par3 (i := 3) (j := 4) (l := 5) (by rfl) sc_explored.nd rfl rfl rfl (by decide) (by decide) (by decide) rfl rfl rfl (pa_cons (pe_lst (pa_cons pe_non pa_nil)) (pa_cons (ki.new _ _) (pa_cons (pe_lst pa_nil) pa_nil))) (by rfl))
    (pss_cons (ps_set (i := 6) sc_explored.nd rfl (Or.inl rfl) pe_int)
    (pss_cons (ps_while PassesOwn.never (pt_cmpR (op_lt) (pv 6) (pe_callB (call_len_seqK (K := K) rfl) (by rfl) T.len PySem.boot_len (pa_cons (pv 3) pa_nil)) (nomark _)) (pss_cons (ps_set (i := 7) sc_explored.nd rfl (Or.inl rfl) (pe_lst pa_nil))
    (pss_cons (ps_for PassesOwn.never rfl (pi_range1 rfl T.range (pa_cons (pv 0) pa_nil)) (pg_name (i := 8) sc_explored.nd rfl (Or.inl rfl)) (pss_cons (ps_set (i := 9) sc_explored.nd rfl (Or.inl rfl) (pe_ifExp (PW.pt (pw_and (pt_cmpR (op_eq) (pv 6) pe_int (nomark _)) (pw_and1 (pt_cmpR (op_eq) (pv 8) pe_int (nomark _))))) pe_non (pe_callC (P := P) (w := w) (K := K) (mg := mg) (base := base) (i := 1) ⟨rfl, rfl, rfl, rfl, rfl⟩ hrC rfl (by first | exact Or.inl rfl | exact Or.inr (Or.inl rfl) | exact Or.inr (Or.inr rfl)) (pa_cons (pe_ix (ix_listK (K := K) rfl) (pv 3) (pv 6) (fun _ _ => rfl)) (pa_cons (pv 8) pa_nil)))))
    (pss_cons (ps_if (PW.pt (pw_and (pt_cmp (pc_notN (pv 9)) rfl) (pw_and1 (pt_cmp (pc_knotin ki (P := P) (w := w) ⟨rfl, rfl⟩ hu (pv 9) (pv 4)) rfl)))) (pss_cons (ps_kput ki (P := P) (w := w) ⟨rfl, rfl⟩ hu (pv 4) (pv 9) (pe_callB (call_len_seqK (K := K) rfl) (by rfl) T.len PySem.boot_len (pa_cons (pv 3) pa_nil)) rfl)
    (pss_one (ps_expr (pe_bm PySem.F.plainAttrs_list PySem.F.slot_list_append PySem.F.type_list_append mt_append (pv 3) (pa_cons (pv 9) pa_nil))))) pss_nil)
    (pss_one (ps_expr (pe_bm PySem.F.plainAttrs_list PySem.F.slot_list_append PySem.F.type_list_append mt_append (pv 7) (pa_cons (pe_ifExp (pt_cmp (pc_isN (pv 9)) rfl) pe_non (pe_kget ki (P := P) (w := w) ⟨rfl, rfl⟩ hu (pv 4) (pv 9) (fun _ _ => rfl))) pa_nil)))))))
    (pss_cons (ps_expr (pe_bm PySem.F.plainAttrs_list PySem.F.slot_list_append PySem.F.type_list_append mt_append (pv 5) (pa_cons (pv 7) pa_nil)))
    (pss_one (ps_aug (i := 6) sc_explored.nd rfl (Or.inl rfl) pe_int ip_add))))))
    (pss_one (ps_ret (pe_tup (pa_cons (pv 5) (pa_cons (pe_lst (pa_cons pe_non (pa_starK (K := K) rfl (pe_lc (own := [("state", 10)]) (g := gName 10) (tt := tYes) rfl sc_explored.nd (pi_listK (K := K) rfl (pe_slice (sl_listK (K := K) rfl) (pv 3) (po_some pe_int) po_none)) (blkOk_by (own := [("state", 10)]) (N := N_explored) (sc := defScope s_explored) (by decide +kernel)) (fun _ _ _ _ _ => (pg_name (i := 10) sc_explored.nd rfl (Or.inl rfl))) (fun _ _ _ _ _ => pts_nil) (fun _ _ _ _ _ => (pe_callC (P := P) (w := w) (K := K) (mg := mg) (base := base) (i := 2) ⟨rfl, rfl, rfl, rfl, rfl⟩ hrC rfl (by first | exact Or.inl rfl | exact Or.inr (Or.inl rfl) | exact Or.inr (Or.inr rfl)) (pa_cons (pv 10) pa_nil)))) pa_nil))) pa_nil)))))))), ?_⟩
  refine ⟨by show 1 ≤ sizeLine; decide, fun po hpo pd hpd => ⟨Nat.zero_le _, fun pr hpr => ?_⟩⟩
  have nod : po ≠ pd := fun z => by rw [z, upd_same] at hpd; cases hpd
  have hpd0 : H pd = none := by rw [upd_ne nod.symm] at hpd; exact hpd
  have npr : pr ≠ pd := fun z => by rw [z, upd_same] at hpr; cases hpr
  have hpr1 : upd H po (.lst [.non]) pr = none := by rw [upd_ne npr] at hpr; exact hpr
  have nor : po ≠ pr := fun z => by rw [z, upd_same] at hpr1; cases hpr1
  have hpr0 : H pr = none := by rw [upd_ne nor.symm] at hpr1; exact hpr1
  refine ⟨_, _, _, rfl, ?_⟩
  refine wl (fun k σ H' => ∃ (s : Nat) (vals : List V) (as : List Addr) (o7 o8 o9 o10 : Option V), k = Ul.length + 1 - s ∧ s ≤ Ul.length + 1 ∧ σ = [some (.int b), some (.ref fs), some (.ref fm), some (.ref po), some (.ref pd), some (.ref pr), some (.int s), o7, o8, o9, o10] ∧
      ExSt ki P w H b stp U .non po pd pr s (seen b stp s) vals as H' ∧ ∀ t, t < s → t ≤ (dd (seen b stp t)).length)
    (Ul.length + 1) ⟨0, [], [], none, none, none, none, rfl, Nat.zero_le _, rfl, ⟨?_, hpo, hpd0, hpr0, nor, ?_, ?_, ?_, ⟨rfl, fun i x k h => by simp at h⟩, rfl, fun i q h => by simp at h, fun x h => by cases h⟩, fun t h => by omega⟩ ?_ ?_
  · exact ((Sm.new hpo).mut hpd0).mut hpr0
  · rw [upd_ne nor, upd_ne nod, upd_same]
  · rw [upd_ne npr.symm, upd_same]; rfl
  · exact upd_same
  · rintro k σ H1 ⟨s, vals, as, o7, o8, o9, o10, rfl, hs, rfl, X1, hat⟩
    have ddlen : ∀ Q : List S, (∀ x ∈ Q, U x) → (dd Q).length ≤ Ul.length := fun Q h => nodup_le (dd_nodup Q) fun x hx => hU x (h x (mem_dd.mp hx))
    have hl1 := ddlen _ X1.ok
    refine ⟨_, rfl, _, rfl, po, _, rfl, .inl (SqL.of X1.ord), _, _, rfl, rfl, _, rfl, ?_⟩
    refine ifb (fun hlt => ?_) (fun hge => ?_)
    · have hlt2 : s ≤ (dd (seen b stp s)).length := by
        have := X1.keys.1
        rw [List.length_cons] at hlt
        omega
      refine ⟨Nat.zero_le _, fun pw hpw => ?_⟩
      have hpw0 := X1.sm.free hpw
      have npo : pw ≠ po := (ne_of_none X1.ord hpw).symm
      have npd : pw ≠ pd := (ne_of_none X1.num hpw).symm
      have npr2 : pw ≠ pr := (ne_of_none X1.rws hpw).symm
      have nas : ∀ (i : Nat) (q : Addr), as[i]? = some q → q ≠ pw := fun i q h => ne_of_none (X1.rows i q h).2.2.2 hpw
      have X2 : ExSt ki P w H b stp U .non po pd pr s (seen b stp s) vals as (upd H1 pw (.lst [])) := X1.other hpw0 (fun ys z => by rw [hpw] at z; cases z) npo npd npr2 nas
      refine ⟨_, rfl, (b : Int), rfl, by omega, by omega, for_range (lo := 0) (n := b) (fun f σ H' => ∃ (vals : List V) (o8 o9 : Option V), σ = [some (.int b), some (.ref fs), some (.ref fm), some (.ref po), some (.ref pd), some (.ref pr), some (.int s), some (.ref pw), o8, o9, o10] ∧
        ExSt ki P w H b stp U .non po pd pr s (upTo b stp s f) vals as H' ∧ H' pw = some (.lst ((rowUp b stp s f).map oV)))
        ⟨vals, o8, o9, rfl, by rw [upTo_zero]; exact X2, upd_same⟩ ?_ ?_⟩
      · rintro f σ H2 hf ⟨vals, o8, o9, rfl, X3, hw3⟩
        have e0 : (0 : Int) + (f : Int) = (f : Int) := Int.zero_add _
        rw [e0]
        -- later = ..
        have hpre := upTo_pre b stp (s := s) (show f ≤ b by omega)
        refine and_eq2 rfl rfl rfl rfl ?_
        by_cases hskip : s = 0 ∧ f = 0
        · obtain ⟨rfl, rfl⟩ := hskip
          refine iteT ?_
          -- later is None
          refine ⟨_, rfl, _, rfl, ?_⟩
          refine iteF ?_
          refine iteF ?_
          refine ⟨_, rfl, .inl ⟨rfl, _, SqL.of hw3⟩, _, rfl, _, rfl, ?_⟩
          refine iteT ?_
          refine ⟨pw, _, _, rfl, rfl, hw3, by rw [List.length_map]; unfold rowUp; rw [List.length_map, List.length_range]; exact sz_lt (by omega), ?_⟩
          refine ⟨vals, _, _, rfl, ?_, ?_⟩
          · rw [upTo_skip b stp ⟨rfl, rfl⟩]
            exact X3.other hpw0 (fun ys z => by rw [hw3] at z; cases z) npo npd npr2 nas
          · rw [upd_same, rowUp_succ, if_pos ⟨rfl, rfl⟩, List.map_append]
            rfl
        · -- step(order[place], figure)
          have hsk : (decide (V.int (s : Int) = V.int 0) && decide (V.int (f : Int) = V.int 0)) = false := by
            rw [Bool.and_eq_false_iff]
            by_cases h0 : s = 0
            · right
              rw [decide_eq_false]
              intro z
              injection z with z
              exact hskip ⟨h0, by omega⟩
            · left
              rw [decide_eq_false]
              intro z
              injection z with z
              omega
          rw [hsk]
          refine iteF ?_
          generalize hprev : prevO (dd (seen b stp s)) s = prev at *
          -- the state that is handed over
          obtain ⟨pv0, hpv, hkv⟩ : ∃ pv0, (V.non :: vals)[s]? = some pv0 ∧ OptKv ki prev H2 pv0 := by
            by_cases h0 : s = 0
            · subst h0
              refine ⟨.non, rfl, ?_⟩
              rw [← hprev]
              exact rfl
            · obtain ⟨s1, rfl⟩ : ∃ s1, s = s1 + 1 := ⟨s - 1, by omega⟩
              obtain ⟨x, hx⟩ : ∃ x, (dd (seen b stp (s1 + 1)))[s1]? = some x := ⟨_, List.getElem?_eq_getElem (by omega)⟩
              have hx2 : (dd (upTo b stp (s1 + 1) f))[s1]? = some x := by
                obtain ⟨r, hr⟩ := seen_upTo b stp (s1 + 1) f
                obtain ⟨z, hz⟩ := dd_pre (seen b stp (s1 + 1)) r
                rw [hr, ← hz, List.getElem?_append_left (by omega)]
                exact hx
              obtain ⟨v, h1, h2⟩ := X3.keys.at_ hx2
              refine ⟨v, h1, ?_⟩
              have : prev = some x := by
                rw [← hprev]
                unfold prevO
                rw [if_neg (by omega)]
                exact hx
              rw [this]
              exact h2
          have hUp : ∀ x, prev = some x → U x := fun x e => by
            rw [← hprev] at e
            unfold prevO at e
            split at e
            · cases e
            · exact X1.ok x (mem_dd.mp (List.mem_of_getElem? e))
          have hpos : prev = none → 0 < f := fun e => by
            rw [← hprev] at e
            unfold prevO at e
            split at e
            · rename_i h0
              exact Nat.pos_of_ne_zero fun z => hskip ⟨h0, z⟩
            · rw [List.getElem?_eq_none_iff] at e
              omega
          refine ⟨fs, rfl, ⟨_, hcs.ext X3.sm.ext⟩, ?_⟩
          refine ⟨_, rfl, _, rfl, po, _, (s : Int), pv0, rfl, rfl, SqL.of X3.ord, atI_nat hpv, _, rfl, ?_⟩
          refine ⟨_, hcs.ext X3.sm.ext, pv0, f, prev, rfl, hf, hkv, hUp, hpos, fun H3 lv e3 hlv => ?_⟩
          have X4 := X3.later e3
          have hw4 := e3.at_ _ _ hw3
          have hnn := ki.nn hlv
          have hux := hcl prev f hf hUp hpos
          generalize hx : stp prev f = x at *
          have ups : upTo b stp s (f + 1) = upTo b stp s f ++ [x] := by rw [upTo_succ b stp hskip, hprev, hx]
          have row1 : (rowUp b stp s (f + 1)).map oV = (rowUp b stp s f).map oV ++ [V.int ((ix (upTo b stp s f ++ [x]) x + 1 : Nat) : Int)] := by
            rw [rowUp_succ, if_neg hskip, hprev, hx, List.map_append]
            obtain ⟨r, hr⟩ := upTo_pre b stp (s := s) (show f + 1 ≤ b by omega)
            rw [ups] at hr
            rw [hr, ix_append (by simp)]
            rfl
          have wlen : ((rowUp b stp s f).map oV).length < sizeLine := by
            rw [List.length_map]; unfold rowUp; rw [List.length_map, List.length_range]; exact sz_lt (by omega)
          -- if later is not None and later not in numbers
          refine ⟨_, rfl, _, rfl, ?_⟩
          rw [decide_eq_false hnn]
          refine iteT ⟨_, rfl, _, rfl, pd, _, x, rfl, X4.num, hlv, _, rfl, ?_⟩
          refine ifv (fun h => ?_) (fun h => ?_)
          · have hn : x ∉ dd (upTo b stp s f) := fun z => by
              rw [numsK_some _ (dd_nodup _) z] at h
              cases h
            have hl2 := ddlen _ X4.ok
            have hll := X4.keys.1
            refine ⟨_, rfl, po, _, rfl, .inl (SqL.of X4.ord), _, rfl, _, rfl, pd, _, x, rfl, X4.num, hlv, by rw [numsK_len]; exact sz_lt (by omega), ?_⟩
            have A := X4.add hlv hn hux
            rw [← ups] at A
            have ho4 : (upd H3 pd (ki.ho P w pd (putK (numsK 1 (dd (upTo b stp s f))) x (.int ((dd (upTo b stp s f)).length + 1 : Nat))))) po = some (.lst (.non :: vals)) := by
              rw [upd_ne X4.od]; exact X4.ord
            have elen : (((V.non :: vals).length : Nat) : Int) = (((dd (upTo b stp s f)).length + 1 : Nat) : Int) := by
              rw [List.length_cons, hll]
            rw [elen]
            refine ⟨_, rfl, .inl ⟨rfl, _, SqL.of ho4⟩, _, rfl, po, _, _, rfl, rfl, ho4, by rw [List.length_cons]; exact sz_lt (by omega), ?_⟩
            -- row.append(numbers[later])
            have hw5 : (upd (upd H3 pd (ki.ho P w pd (putK (numsK 1 (dd (upTo b stp s f))) x (.int ((dd (upTo b stp s f)).length + 1 : Nat))))) po (.lst (.non :: (vals ++ [lv])))) pw = some (.lst ((rowUp b stp s f).map oV)) := by
              rw [upd_ne npo, upd_ne npd]; exact hw4
            have A2 := A
            rw [show (V.non :: vals) ++ [lv] = V.non :: (vals ++ [lv]) from rfl]
            refine ⟨_, rfl, .inl ⟨rfl, _, SqL.of hw5⟩, _, rfl, _, rfl, ?_⟩
            rw [decide_eq_false hnn]
            have hin : x ∈ dd (upTo b stp s (f + 1)) := by rw [ups]; exact mem_dd.mpr (by simp)
            have kv5 : ki.kv x (upd (upd H3 pd (ki.ho P w pd (putK (numsK 1 (dd (upTo b stp s f))) x (.int ((dd (upTo b stp s f)).length + 1 : Nat))))) po (.lst (.non :: (vals ++ [lv])))) lv := by
              refine ki.keep (fun c ys h => ?_) hlv
              have n1 : c ≠ po := fun z => by rw [z, X4.ord] at h; cases h
              have n2 : c ≠ pd := fun z => by rw [z, X4.num] at h; exact ki.nt _ _ _ _ _ (Option.some.inj h)
              rw [upd_ne n1, upd_ne n2]; exact h
            refine iteF ⟨_, rfl, _, rfl, pd, _, x, _, rfl, A2.num, kv5, numsK_some _ (dd_nodup _) hin, ?_⟩
            refine ⟨pw, _, _, rfl, rfl, hw5, wlen, ?_⟩
            refine ⟨vals ++ [lv], _, _, rfl, A2.other hpw0 (fun ys z => by rw [hw5] at z; cases z) npo npd npr2 nas, ?_⟩
            rw [upd_same, row1, ← ups]
            rfl
          · have hy : x ∈ dd (upTo b stp s f) := by
              apply Classical.byContradiction
              intro z
              rw [numsK_none z] at h
              cases h
            have A := X4.same hy hux
            rw [← ups] at A
            refine ⟨_, rfl, .inl ⟨rfl, _, SqL.of hw4⟩, _, rfl, _, rfl, ?_⟩
            rw [decide_eq_false hnn]
            have hin : x ∈ dd (upTo b stp s (f + 1)) := by rw [ups]; exact mem_dd.mpr (by simp)
            refine iteF ⟨_, rfl, _, rfl, pd, _, x, _, rfl, A.num, hlv, numsK_some _ (dd_nodup _) hin, ?_⟩
            refine ⟨pw, _, _, rfl, rfl, hw4, wlen, ?_⟩
            refine ⟨vals, _, _, rfl, A.other hpw0 (fun ys z => by rw [hw4] at z; cases z) npo npd npr2 nas, ?_⟩
            rw [upd_same, row1, ← ups]
            rfl
      · rintro σ H2 ⟨vals, o8, o9, rfl, X3, hw3⟩
        -- rows.append(row); place += 1
        have hr2 : X3.rws = X3.rws := rfl
        have wl3 : ((as.map V.ref).length) < sizeLine := by rw [List.length_map, X3.alen]; exact sz_lt (by omega)
        refine ⟨_, rfl, .inl ⟨rfl, _, SqL.of X3.rws⟩, _, rfl, pr, _, _, rfl, rfl, X3.rws, wl3, ?_⟩
        refine ⟨_, rfl, _, _, rfl, rfl, ?_⟩
        rw [upTo_all] at X3
        refine ⟨Ul.length + 1 - (s + 1), by omega, s + 1, vals, as ++ [pw], _, _, _, _, rfl, by omega, rfl, ?_, fun t ht => ?_⟩
        · refine ⟨X3.sm.mut X3.r0, X3.o0, X3.d0, X3.r0, X3.opr, by rw [upd_ne X3.opr]; exact X3.ord, by rw [upd_ne X3.rd.symm]; exact X3.num, by rw [upd_same, List.map_append]; rfl, X3.keys.keep fun c ys h => ?_, by rw [List.length_append, X3.alen]; rfl, fun i q h => ?_, X3.ok⟩
          · rw [upd_ne fun z => by rw [z, X3.rws] at h; cases h]; exact h
          · by_cases hi : i < as.length
            · rw [List.getElem?_append_left hi] at h
              obtain ⟨a, c, d, g⟩ := X3.rows i q h
              exact ⟨a, c, d, by rw [upd_ne c]; exact g⟩
            · have hi2 : i = s := by
                have := (List.getElem?_eq_some_iff.mp h).1
                rw [List.length_append, X3.alen] at this
                rw [X3.alen] at hi
                simp at this
                omega
              rw [hi2, List.getElem?_append_right (by rw [X3.alen]; exact Nat.le_refl _), X3.alen, Nat.sub_self] at h
              have hq : pw = q := Option.some.inj h
              rw [← hq, hi2]
              exact ⟨npo, npr2, hpw0, by rw [upd_ne npr2]; exact hw3⟩
        · by_cases e : t = s
          · rw [e]; exact hlt2
          · exact hat t (by omega)
    · -- the end
      have hll := X1.keys.1
      rw [List.length_cons] at hge
      have hs1 : 1 ≤ s := by omega
      obtain ⟨m, rfl⟩ : ∃ m, s = m + 1 := ⟨s - 1, by omega⟩
      have hm1 : m ≤ (dd (seen b stp m)).length := hat m (by omega)
      have hm2 : (dd (seen b stp m)).length ≤ (dd (seen b stp (m + 1))).length := (dd_seen_pre b stp (Nat.le_succ m)).length_le
      have hd : Done b stp m := ⟨by omega, fun t ht => hat t (by omega)⟩
      -- return (rows, [None, *[mark(state) for state in order[1:]]])
      refine ⟨_, rfl, _, rfl, _, rfl, po, _, rfl, SqL.of X1.ord, fun ps hps => ?_⟩
      rw [cut_tail]
      have hps1 : H1 ps = none := hps
      refine ⟨ps, rfl, ⟨_, SqL.of upd_same⟩, fun Dl hDl => lcm (K := K) (xs := vals) (fun i y H' => ∃ x, (dd (seen b stp (m + 1)))[i]? = some x ∧ km.kv (mk x) H' y) hDl (SqL.of upd_same) (by omega) (fun x => rfl)
        (fun k y H3 H4 ⟨acc, ha⟩ hk ⟨x, h1, h2⟩ => ⟨x, h1, km.keep (fun c ys hc => hk c _ (fun z => by rw [z, ha] at hc; cases hc) hc) h2⟩) ?_ ?_⟩
      · intro i v H3 hi e3 _ Qk hQ
        have X3 := X1.later ((Sm.new hps).trans e3)
        obtain ⟨x, hx⟩ : ∃ x, (dd (seen b stp (m + 1)))[i]? = some x := ⟨_, List.getElem?_eq_getElem (by have := (List.getElem?_eq_some_iff.mp hi).1; omega)⟩
        have hkv := X3.keys.2 i v x hi hx
        have hux := X3.ok x (mem_dd.mp (List.mem_of_getElem? hx))
        refine ⟨fm, rfl, ⟨_, hcm.ext X3.sm.ext⟩, _, rfl, _, hcm.ext X3.sm.ext, v, x, rfl, hkv, hux, fun H4 v' e4 hv' => hQ v' H4 e4 ⟨x, hx, hv'⟩⟩
      · intro ys H3 hyl hys hD3 e3
        have X3 := X1.later ((Sm.new hps).trans e3)
        refine ⟨Dl, ys, rfl, .inr (SqL.of hD3), ?_⟩
        have hz : (V.non :: (ys ++ [])).length ≤ sizeLine := by
          rw [List.append_nil, List.length_cons]
          exact sz_le (by omega)
        refine ⟨hz, fun pm hpm => ?_⟩
        refine ⟨by show 2 ≤ sizeLine; decide, fun pt hpt => ?_⟩
        have hpm0 := X3.sm.free hpm
        have npt : pm ≠ pt := fun z => by rw [← z, upd_same] at hpt; cases hpt
        have hpt3 : H3 pt = none := by rw [upd_ne npt.symm] at hpt; exact hpt
        have e5 : Sm H3 (upd (upd H3 pm (.lst (.non :: (ys ++ [])))) pt (.tup [.ref pr, .ref pm])) := (Sm.new hpm).trans (Sm.new hpt)
        have X5 := X3.later e5
        refine k_ m pt pr pm ys _ hd (by omega) X5.ok (X3.sm.free hpt3) X5.sm upd_same X5.r0 ?_ hpm0 ?_ ?_
        · refine ⟨as, X5.rws, by rw [X5.alen]; unfold gridOf; simp, fun i r hr => ?_⟩
          have hi : i < m + 1 := by
            have := (List.getElem?_eq_some_iff.mp hr).1
            unfold gridOf at this
            simpa using this
          obtain ⟨q, hq⟩ : ∃ q, as[i]? = some q := ⟨_, List.getElem?_eq_getElem (by rw [X5.alen]; exact hi)⟩
          refine ⟨q, hq, ?_⟩
          obtain ⟨_, _, _, g⟩ := X5.rows i q hq
          rw [g, rowUp_done b stp hb hd (by omega)]
          unfold gridOf at hr
          rw [List.getElem?_map, List.getElem?_range hi] at hr
          rw [← Option.some.inj hr]
        · rw [upd_ne npt, upd_same, List.append_nil]
        · refine ⟨by rw [hyl, List.length_map, X5.keys.1], fun i y k hy hk => ?_⟩
          obtain ⟨x, hx, hv⟩ := hys i y hy
          rw [List.getElem?_map, hx] at hk
          rw [← Option.some.inj hk]
          exact km.keep (fun c zs hc => e5.at_ c _ hc) hv
  · rintro σ H0 Q1 Q2 hq ⟨v, a1, v2, a2, p, ys, a3, a4, i, j, a5, a6, c, a7, a8⟩
    exact ⟨v, a1, v2, a2, p, ys, a3, a4, i, j, a5, a6, c, a7, hq _ _ a8⟩
end
end Bz
end
section
set_option Elab.async false
set_option linter.all false
set_option maxRecDepth 100000
set_option maxHeartbeats 4000000
namespace Bz
open PySem PySem.Spec PyProof.Rows L2 LamX NdefX
/-! ### classes of states -/
theorem ys_nV {ys : List V} {l : List Nat} (hl : ys.length = l.length) (h : ∀ (i : Nat) (y : V), ys[i]? = some y → ∃ n, l[i]? = some n ∧ y = .int (n : Nat)) : ys = nV l := by
  apply List.ext_getElem?
  intro i
  by_cases hi : i < ys.length
  · obtain ⟨n, e1, e2⟩ := h i _ (List.getElem?_eq_getElem hi)
    rw [List.getElem?_eq_getElem hi, e2, List.getElem?_map, e1] <;> rfl
  · rw [List.getElem?_eq_none (by omega), List.getElem?_eq_none (by rw [List.length_map]; omega)]
section
variable {P : Program} {w : World} {K : PySem.W.Frag} {mg : Str → Option Value} {base : Heap}
abbrev N_classes_of : List Str := ["rows", "marks", "known", "mark", "found", "many", "later", "state", "signs", "sign"]
theorem sc_classes_of : FnScope N_classes_of ["rows", "marks"] (defScope s_classes_of) := ⟨rfl, rfl, rfl, by decide +kernel, rfl, by decide +kernel, by decide +kernel⟩
theorem hb_classes_of : HB s_classes_of "classes_of" "classes_of" ["rows", "marks"] := fun _ _ _ _ _ _ us hl => match us, hl with | [_, _], _ => rfl

/-- classes_of(rows, marks) -/
def spClasses {M : Type} [DecidableEq M] (km : KI M) : Sp := fun vs H Q _ => ∃ (pr pm : Addr) (b m : Nat) (g : Rows) (ms : List V) (mks : List M) (mk : Nat → M), vs = [.ref pr, .ref pm] ∧ RowsAt H pr g ∧ H pm = some (.lst (.non :: ms)) ∧ KeysAre km H ms mks ∧ 2 ≤ b ∧ b ≤ 16 ∧ Wf b m g ∧ mks.length = m ∧ m ≤ 50000 ∧
  (∀ s, 1 ≤ s → s ≤ m → mks[s - 1]? = some (mk s)) ∧ ∀ p H' cl, H p = none → Sm H H' → H' p = some (.lst (.non :: nV cl)) → Stable b m g mk cl → Q (.ref p) H'
theorem g_classes_of {M : Type} [DecidableEq M] (km : KI M) {f : Addr} (T : Bt mg) (D : Df K "classes_of" "classes_of" s_classes_of f) (m : mg "classes_of" = some (.ref f)) (G1 : Fn P w K mg base CXN 1 "numbered" ["things"] (spNumbered km P w K)) (G2 : Fn P w K mg base CXN 1 "numbered" ["things"] (spNumbered kT P w K)) :
    Fn P w K mg base CXN 2 "classes_of" ["rows", "marks"] (spClasses km) := by
  refine D.fn m sc_classes_of hb_classes_of (fun vs H Q E ⟨pr, pm, b, m, g, ms, mks, mk, e, _⟩ => by rw [e]; rfl) fun cdv A outer s H vs Q E hr ⟨pr, pm, b, m, g, ms, mks, mk, e, hrows, hpm, hkm, hb, hb2, wf, hml, hm5, hmk, k_⟩ => ?_
  subst e
  have hu := hu_of hr
  refine ⟨_, (pss_cons (ps_set (i := 2) sc_classes_of.nd rfl (Or.inr rfl) (pe_fn G1 hr (by rfl) pass0 (pa_cons (pe_slice (sl_listK (K := K) rfl) (pv 1) (po_some pe_int) po_none) pa_nil)))
    (pss_cons (ps_set (i := 4) sc_classes_of.nd rfl (Or.inr rfl) (pe_lst (pa_cons pe_non (pa_starK (K := K) rfl (pe_lc (own := [("mark", 3)]) (g := gName 3) (tt := tYes) rfl sc_classes_of.nd (pi_listK (K := K) rfl (pe_slice (sl_listK (K := K) rfl) (pv 1) (po_some pe_int) po_none)) (blkOk_by (own := [("mark", 3)]) (N := N_classes_of) (sc := defScope s_classes_of) (by decide +kernel)) (fun _ _ _ _ _ => (pg_name (i := 3) sc_classes_of.nd rfl (Or.inl rfl))) (fun _ _ _ _ _ => pts_nil) (fun _ _ _ _ _ => (pe_kget km (P := P) (w := w) ⟨rfl, rfl⟩ hu (pv 2) (pv 3) (fun _ _ => rfl)))) pa_nil))))
    (pss_cons (ps_set (i := 5) sc_classes_of.nd rfl (Or.inl rfl) pe_int)
    (pss_cons (ps_while PassesOwn.never (pt_cmpR (op_ne) (pv 5) (pe_callB (call_klenE km kT (P := P) (w := w) ⟨rfl, rfl⟩) (by rfl) T.len PySem.boot_len (pa_cons (pv 2) pa_nil)) (nomark _)) (pss_cons (ps_set (i := 5) sc_classes_of.nd rfl (Or.inl rfl) (pe_callB (call_klenE km kT (P := P) (w := w) ⟨rfl, rfl⟩) (by rfl) T.len PySem.boot_len (pa_cons (pv 2) pa_nil)))
    (pss_cons (ps_setLc (i := 8) (own := [("state", 7)]) (g := gName 7) (tt := tYes) rfl sc_classes_of.nd rfl rfl (sw_true rfl rfl rfl (by decide +kernel)) (pi_range2 rfl T.range (pa_cons pe_int (pa_cons (pe_callB (call_len_seqK (K := K) rfl) (by rfl) T.len PySem.boot_len (pa_cons (pv 0) pa_nil)) pa_nil))) (blkOk_by (own := [("state", 7)]) (N := N_classes_of) (sc := defScope s_classes_of) (by decide +kernel)) (fun _ _ _ _ _ => (pg_name (i := 7) sc_classes_of.nd rfl (Or.inl rfl))) (fun _ _ _ _ _ => pts_nil) (fun _ _ _ _ _ => (pe_tup (pa_cons (pe_ix (ix_listK (K := K) rfl) (pv 4) (pv 7) (fun _ _ => rfl)) (pa_starK (K := K) rfl (pe_lc (own := [("later", 6)]) (g := gName 6) (tt := tYes) rfl sc_classes_of.nd (pi_listK (K := K) rfl (pe_ix (ix_listK (K := K) rfl) (pv 0) (pv 7) (fun _ _ => rfl))) (blkOk_by (own := [("later", 6)]) (N := N_classes_of) (sc := lcS [(".0", .local), ("state", .local), ("found", .cell), ("rows", .cell)]) (by decide +kernel)) (fun _ _ _ _ _ => (pg_name (i := 6) sc_classes_of.nd rfl (Or.inl rfl))) (fun _ _ _ _ _ => pts_nil) (fun _ _ _ _ _ => (pe_ix (ix_listK (K := K) rfl) (pv 4) (pv 6) (fun _ _ => rfl)))) pa_nil)))))
    (pss_cons (ps_set (i := 2) sc_classes_of.nd rfl (Or.inr rfl) (pe_fn G2 hr (by rfl) pass0 (pa_cons (pv 8) pa_nil)))
    (pss_one (ps_set (i := 4) sc_classes_of.nd rfl (Or.inr rfl) (pe_lst (pa_cons pe_non (pa_starK (K := K) rfl (pe_lc (own := [("sign", 9)]) (g := gName 9) (tt := tYes) rfl sc_classes_of.nd (pi_listK (K := K) rfl (pv 8)) (blkOk_by (own := [("sign", 9)]) (N := N_classes_of) (sc := defScope s_classes_of) (by decide +kernel)) (fun _ _ _ _ _ => (pg_name (i := 9) sc_classes_of.nd rfl (Or.inl rfl))) (fun _ _ _ _ _ => pts_nil) (fun _ _ _ _ _ => (pe_kget kT (P := P) (w := w) ⟨rfl, rfl⟩ hu (pv 2) (pv 9) (fun _ _ => rfl)))) pa_nil)))))))))
    (pss_one (ps_ret (pv 4))))))), ?_⟩
  obtain ⟨as, hr1, hr2, hr3⟩ := id hrows
  obtain ⟨t1, _, ht1, ht2⟩ := wf.ent 0 1 (Nat.zero_le _) (by omega) (.inr (by omega))
  have hmsl : ms.length = m := by rw [hkm.1, hml]
  refine ⟨_, rfl, _, rfl, pm, _, rfl, SqL.of hpm, fun ps hps => ?_⟩
  rw [cut_tail]
  have e0 : Sm H (upd H ps (.lst ms)) := Sm.new hps
  refine ⟨ps, ms, mks, rfl, SqL.of upd_same, hkm.keep fun b ys => e0.at_ b _, by omega, fun pk H1 hpk e1 hk1 => ?_⟩
  have e01 := e0.trans e1
  refine ⟨_, rfl, _, rfl, pm, _, rfl, SqL.of (e01.at_ _ _ hpm), fun ps2 hps2 => ?_⟩
  rw [cut_tail]
  have e2 : Sm H1 (upd H1 ps2 (.lst ms)) := Sm.new hps2
  refine ⟨ps2, rfl, ⟨_, SqL.of upd_same⟩, fun Dl hDl => lcm (K := K) (xs := ms) (fun i y _ => ∃ k, mks[i]? = some k ∧ y = .int (ix mks k : Nat)) hDl (SqL.of upd_same) (by omega) (fun x => rfl) (fun _ _ _ _ _ _ h => h) ?_ ?_⟩
  · intro i v H3 hi e3 _ Qk hQ
    have hi2 := (List.getElem?_eq_some_iff.mp hi).1
    obtain ⟨k, hk⟩ : ∃ k, mks[i]? = some k := ⟨_, List.getElem?_eq_getElem (by omega)⟩
    have e03 := e01.trans (e2.trans e3)
    refine ⟨_, rfl, _, rfl, pk, _, k, _, rfl, (e2.trans e3).at_ _ _ hk1, km.keep (fun b ys => e03.at_ b _) (hkm.2 i v k hi hk), numsK_some _ (dd_nodup _) (mem_dd.mpr (List.mem_of_getElem? hk)), ?_⟩
    exact hQ _ H3 (Sm.refl _) ⟨k, hk, rfl⟩
  intro ys H3 hyl hys hD3 e3
  have hys2 : ys = nV (mks.map (ix mks)) := ys_nV (by rw [List.length_map]; omega) fun i y h => by
    obtain ⟨k, hk, e⟩ := hys i y h
    exact ⟨_, by rw [List.getElem?_map, hk] <;> rfl, e⟩
  have e03 := e01.trans (e2.trans e3)
  refine ⟨Dl, ys, rfl, .inr (SqL.of hD3), ?_⟩
  refine ⟨by rw [List.append_nil, List.length_cons]; exact sz_le (by omega), fun pf hpf => ?_⟩
  rw [List.append_nil, hys2] at *
  have e4 : Sm H3 (upd H3 pf (.lst (.non :: nV (mks.map (ix mks))))) := Sm.new hpf
  have hdl : ∀ c, c ≤ m → c ≤ m := fun _ h => h
  refine wl (fun k σ H' => ∃ (pk pf : Addr) (cl : List Nat) (many : Nat) (o3 o6 o7 o8 o9 : Option V), k = m + 1 - many ∧ σ = [some (.ref pr), some (.ref pm), some (.ref pk), o3, some (.ref pf), some (.int (many : Nat)), o6, o7, o8, o9] ∧
      Sm H H' ∧ H pf = none ∧ H' pf = some (.lst (.non :: nV cl)) ∧
      ((∃ kvs, H' pk = some (km.ho P w pk kvs) ∧ (dd cl).length = kvs.length) ∨ ∃ kvs, H' pk = some (kT.ho P w pk kvs) ∧ (dd cl).length = kvs.length) ∧ ClsInv b m g mk cl ∧ many ≤ (dd cl).length ∧ (many = (dd cl).length → Stable b m g mk cl))
    (m + 1) ⟨pk, pf, mks.map (ix mks), 0, _, _, _, _, _, rfl, rfl, e03.trans e4, e03.free hpf, upd_same, .inl ⟨_, (e2.trans (e3.trans e4)).at_ _ _ hk1, by rw [numsK_len, dd_ix_len]⟩, first_cls hml hmk, Nat.zero_le _, fun z => ?_⟩ ?_ ?_
  · exfalso
    rw [dd_ix_len] at z
    have hm1 : mk 1 ∈ mks := List.mem_of_getElem? (hmk 1 (Nat.le_refl _) (by omega))
    have := ix_lt hm1
    omega
  · rintro k σ H5 ⟨pk, pf, cl, many, o3, o6, o7, o8, o9, rfl, rfl, e5, hpf0, hpf5, hpk5, ci, hle, hst⟩
    have hcl : (dd cl).length ≤ m := by
      have := dd_len cl
      rw [ci.len] at this
      exact this
    refine ⟨_, rfl, _, rfl, pk, (dd cl).length, rfl, hpk5, rfl, _, rfl, ?_⟩
    refine ifnb (fun hne => ?_) (fun heq => ?_)
    · have hlt : many < (dd cl).length := Nat.lt_of_le_of_ne hle fun z => hne (by rw [z])
      refine ⟨_, rfl, pk, _, rfl, hpk5, ?_⟩
      have hr5 := e5.at_ _ _ hr1
      refine ⟨_, rfl, pr, _, rfl, .inl (SqL.of hr5), 1, _, rfl, ?_, ?_⟩
      · rw [List.length_map, hr2, wf.len]
        omega
      have hn : ((((as.map V.ref).length : Nat) : Int) - 1).toNat = m := by
        rw [List.length_map, hr2, wf.len]
        omega
      rw [hn]
      refine fun Ds hDs => lcmR (lo := 1) (n := m) (fun i y H' => kT.kv (sigI b g cl (i + 1)) H' y) hDs (by omega) (fun x => rfl)
        (fun k y H3 H4 ⟨acc, ha⟩ hk ⟨x, h1, h2⟩ => ⟨x, h1, hk _ _ (fun z => by rw [z, ha] at h2; cases h2) h2⟩) ?_ ?_
      · intro i H6 hi e6 _ Qk hQ
        have e1i : (1 : Int) + (i : Int) = ((i + 1 : Nat) : Int) := by omega
        rw [e1i]
        have hcli : cl[i]? = some (cl.getD i 0) := by
          rw [List.getD_eq_getElem?_getD, List.getElem?_eq_getElem (by rw [ci.len]; exact hi)] <;> rfl
        have hfi : (V.non :: nV cl)[i + 1]? = some (V.int (cl.getD i 0 : Nat)) := by
          rw [List.getElem?_cons_succ, List.getElem?_map, hcli] <;> rfl
        have hpf6 := e6.at_ _ _ hpf5
        refine ⟨_, rfl, _, rfl, pf, _, _, _, rfl, rfl, SqL.of hpf6, atI_nat hfi, ?_⟩
        obtain ⟨r, hr⟩ : ∃ r, g[i + 1]? = some r := ⟨_, List.getElem?_eq_getElem (by rw [wf.len]; omega)⟩
        obtain ⟨q, hq, hq1⟩ := hr3 (i + 1) r hr
        have hq6 := (e5.trans e6).at_ _ _ hq1
        refine ⟨_, rfl, _, rfl, pr, _, _, _, rfl, rfl, SqL.of (e6.at_ _ _ hr5), atI_nat (v := .ref q) (by rw [List.getElem?_map, hq] <;> rfl), ?_⟩
        have hrl : r.length = b := wf.row _ _ hr
        refine ⟨q, rfl, ⟨_, SqL.of hq6⟩, fun Dt hDt => lcm (K := K) (xs := r.map oV) (fun f y _ => y = .int (cl.getD (nxt g (i + 1) f - 1) 0 : Nat)) hDt (SqL.of hq6) (by rw [List.length_map]; omega) (fun x => rfl) (fun _ _ _ _ _ _ h => h) ?_ ?_⟩
        · intro f y H7 hy e7 _ Qk2 hQ2
          have hf : f < b := by
            have := (List.getElem?_eq_some_iff.mp hy).1
            rw [List.length_map] at this
            omega
          obtain ⟨t, et, t1, t2⟩ := wf.ent (i + 1) f (by omega) hf (.inl (by omega))
          obtain ⟨r', er, ef⟩ := rows_get et
          rw [hr] at er
          rw [← Option.some.inj er, ] at ef
          rw [List.getElem?_map, ef] at hy
          have hy : V.int (t : Nat) = y := Option.some.inj hy
          subst hy
          have en : nxt g (i + 1) f = t := by unfold nxt; rw [et] <;> rfl
          obtain ⟨t', rfl⟩ : ∃ t', t = t' + 1 := ⟨t - 1, by omega⟩
          have hclt : cl[t']? = some (cl.getD t' 0) := by
            rw [List.getD_eq_getElem?_getD, List.getElem?_eq_getElem (by rw [ci.len]; omega)] <;> rfl
          have hft : (V.non :: nV cl)[t' + 1]? = some (V.int (cl.getD t' 0 : Nat)) := by
            rw [List.getElem?_cons_succ, List.getElem?_map, hclt] <;> rfl
          refine ⟨_, rfl, _, rfl, pf, _, _, _, rfl, rfl, SqL.of ((e6.trans e7).at_ _ _ hpf5), atI_nat hft, ?_⟩
          exact hQ2 _ H7 (Sm.refl _) (by rw [en]; rfl)
        · intro ys H7 hyl hys hDt7 e7
          have hys2 : ys = nV ((List.range b).map fun f => cl.getD (nxt g (i + 1) f - 1) 0) := ys_nV (by rw [hyl]; simp [hrl]) fun f y h => by
            have hf : f < b := by
              have := (List.getElem?_eq_some_iff.mp h).1
              rw [hyl, List.length_map] at this
              omega
            exact ⟨_, by rw [List.getElem?_map, List.getElem?_range hf] <;> rfl, hys f y h⟩
          refine ⟨Dt, ys, rfl, .inr (SqL.of hDt7), ?_⟩
          refine ⟨by rw [List.append_nil, List.length_cons, hyl, List.length_map]; exact sz_le (by omega), fun pt hpt => ?_⟩
          rw [List.append_nil, hys2]
          refine hQ _ _ (e7.trans (Sm.new hpt)) ⟨pt, rfl, ?_⟩
          rw [upd_same]
          unfold sigI sigN nV
          simp only [List.map_map, List.map_cons, Nat.add_sub_cancel]
          rfl
      · intro ys H6 hyl hys hDs6 e6
        have hsl : (sigs b m g cl).length = m := by unfold sigs; simp
        have e06 := e5.trans e6
        have hkeys : KeysAre kT H6 ys (sigs b m g cl) := ⟨by rw [hyl, hsl], fun i y k hy hk => by
          have hi : i < m := by
            have := (List.getElem?_eq_some_iff.mp hy).1
            omega
          unfold sigs at hk
          rw [List.getElem?_map, List.getElem?_range hi] at hk
          rw [← Option.some.inj hk]
          exact hys i y hy⟩
        refine ⟨_, rfl, Ds, ys, sigs b m g cl, rfl, SqL.of hDs6, hkeys, by omega, fun pk2 H7 hpk2 e7 hk7 => ?_⟩
        refine ⟨_, rfl, Ds, rfl, ⟨_, SqL.of (e7.at_ _ _ hDs6)⟩, fun Dl2 hDl2 => lcm (K := K) (xs := ys) (fun i y _ => ∃ k, (sigs b m g cl)[i]? = some k ∧ y = .int (ix (sigs b m g cl) k : Nat)) hDl2 (SqL.of (e7.at_ _ _ hDs6)) (by omega) (fun x => rfl) (fun _ _ _ _ _ _ h => h) ?_ ?_⟩
        · intro i v H8 hi e8 _ Qk hQ
          have hi2 := (List.getElem?_eq_some_iff.mp hi).1
          obtain ⟨k, hk⟩ : ∃ k, (sigs b m g cl)[i]? = some k := ⟨_, List.getElem?_eq_getElem (by omega)⟩
          refine ⟨_, rfl, _, rfl, pk2, _, k, _, rfl, e8.at_ _ _ hk7, kT.keep (fun b ys => (e7.trans e8).at_ b _) (hkeys.2 i v k hi hk), numsK_some _ (dd_nodup _) (mem_dd.mpr (List.mem_of_getElem? hk)), ?_⟩
          exact hQ _ H8 (Sm.refl _) ⟨k, hk, rfl⟩
        · intro zs H8 hzl hzs hD8 e8
          have hzs2 : zs = nV (nextCl b m g cl) := ys_nV (by unfold nextCl; rw [List.length_map]; omega) fun i y h => by
            obtain ⟨k, hk, e⟩ := hzs i y h
            exact ⟨_, by unfold nextCl; rw [List.getElem?_map, hk] <;> rfl, e⟩
          obtain ⟨n1, n2⟩ := next_cnt wf ci
          have n0 := next_cls wf ci
          refine ⟨Dl2, zs, rfl, .inr (SqL.of hD8), ?_⟩
          refine ⟨by rw [List.append_nil, List.length_cons]; exact sz_le (by omega), fun pf2 hpf2 => ?_⟩
          rw [List.append_nil, hzs2]
          have e9 := (e7.trans e8).trans (Sm.new (o := .lst (.non :: nV (nextCl b m g cl))) hpf2)
          refine ⟨m + 1 - (dd cl).length, by omega, pk2, pf2, nextCl b m g cl, (dd cl).length, _, _, _, _, _, rfl, rfl, e06.trans e9, (e06.trans (e7.trans e8)).free hpf2, upd_same, .inr ⟨_, (e8.trans (Sm.new hpf2)).at_ _ _ hk7, ?_⟩, n0, n1, n2⟩
          rw [numsK_len]
          unfold nextCl
          rw [dd_ix_len]
    · refine ⟨_, rfl, ?_⟩
      exact k_ pf H5 cl hpf0 e5 hpf5 (hst (by injection heq with h; omega))
  · rintro σ H0 Q1 Q2 hq ⟨v, a1, v2, a2, p, n, a3, a4, a5, c, a6, a7⟩
    exact ⟨v, a1, v2, a2, p, n, a3, a4, a5, c, a6, hq _ _ a7⟩
end
end Bz
end
section
set_option maxHeartbeats 400000
set_option autoImplicit false
set_option linter.unusedVariables false
namespace Bz
/-! a least machine is no greater than any way to tell its numbers apart -/
theorem Canon.le_of {μ S : Type} {b m : Nat} {g : List (List (Option Nat))} {mk F : Nat → μ} (hb : 2 ≤ b) (c : Canon b m g mk F) (φ : Nat → S) (Ul : List S) (hu : ∀ n, 0 < n → φ n ∈ Ul)
    (step : ∀ n k, 0 < n → 0 < k → φ n = φ k → ∀ f, f < b → φ (n * b + f) = φ (k * b + f)) (hF : ∀ n k, 0 < n → 0 < k → φ n = φ k → F n = F k) : m ≤ Ul.length := by
  have eqE : ∀ (w : List Nat) (n k : Nat), 0 < n → 0 < k → φ n = φ k → (∀ f ∈ w, f < b) → φ (ext b n w) = φ (ext b k w) := by
    intro w
    induction w with
    | nil => intro n k _ _ e _; exact e
    | cons f w ih =>
      intro n k hn hk e hw
      have pn : 0 < n * b + f := by
        have : 0 < n * b := Nat.mul_pos hn (by omega)
        omega
      have pk : 0 < k * b + f := by
        have : 0 < k * b := Nat.mul_pos hk (by omega)
        omega
      exact ih _ _ pn pk (step n k hn hk e f (hw f List.mem_cons_self)) fun x hx => hw x (List.mem_cons_of_mem _ hx)
  have inj : ∀ n k, 0 < n → 0 < k → φ n = φ k → run g b n = run g b k := fun n k hn hk e => c.same_of_alike hb hn hk fun w hw => hF _ _ (ext_pos hb w n hn) (ext_pos hb w k hk) (eqE w n k hn hk e hw)
  have ch : ∀ i : Nat, ∃ n, 0 < n ∧ (i < m → run g b n = i + 1) := fun i => by
    by_cases h : i < m
    · obtain ⟨n, h1, h2⟩ := c.met.reach (i + 1) (by omega) (by omega)
      exact ⟨n, h1, fun _ => h2⟩
    · exact ⟨1, by omega, fun z => absurd z h⟩
  let N : Nat → Nat := fun i => (ch i).choose
  have hN : ∀ i, 0 < N i ∧ (i < m → run g b (N i) = i + 1) := fun i => (ch i).choose_spec
  have nd : ((List.range m).map fun i => φ (N i)).Nodup := by
    unfold List.Nodup
    rw [List.pairwise_map]
    refine List.Pairwise.imp_of_mem ?_ (List.nodup_range (n := m))
    intro i j hi hj hne e
    have hi := List.mem_range.mp hi
    have hj := List.mem_range.mp hj
    have := inj _ _ (hN i).1 (hN j).1 e
    rw [(hN i).2 hi, (hN j).2 hj] at this
    exact hne (by omega)
  have := nodup_le nd fun x hx => by
    obtain ⟨i, hi, rfl⟩ := List.mem_map.mp hx
    exact hu _ (hN i).1
  simpa using this
end Bz
end
section
set_option Elab.async false
set_option linter.all false
set_option maxRecDepth 100000
set_option maxHeartbeats 4000000
namespace Bz
open PySem PySem.Spec PyProof.Rows L2 LamX NdefX
section
variable {P : Program} {w : World} {K : PySem.W.Frag} {mg : Str → Option Value} {base : Heap}
/-- the marks of the states from 1 on -/
structure MarksAre {M : Type} [DecidableEq M] (km : KI M) (H : Hp) (ms : List V) (mk : Nat → M) (m : Nat) : Prop where
  len : ms.length = m
  at_ : ∀ s, 1 ≤ s → s ≤ m → ∃ v, ms[s - 1]? = some v ∧ km.kv (mk s) H v
abbrev N_least_grid : List Str := ["figures", "rows", "marks", "most", "classes", "firsts", "places", "state", "least", "later"]
theorem sc_least_grid : FnScope N_least_grid ["figures", "rows", "marks", "most"] (defScope s_least_grid) := ⟨rfl, rfl, rfl, by decide +kernel, rfl, by decide +kernel, by decide +kernel⟩
theorem hb_least_grid : HB s_least_grid "least_grid" "least_grid" ["figures", "rows", "marks", "most"] := fun _ _ _ _ _ _ us hl => match us, hl with | [_, _, _, _], _ => rfl

/-- least_grid(figures, rows, marks, most), where few states do -/
def spLeast {M : Type} [DecidableEq M] (km : KI M) (C : Addr) : Sp := fun vs H Q _ => ∃ (pr pm : Addr) (b m most : Nat) (g : Rows) (ms : List V) (mks : List M) (mk F : Nat → M), vs = [.int b, .ref pr, .ref pm, .int most] ∧ RowsAt H pr g ∧ H pm = some (.lst (.non :: ms)) ∧ KeysAre km H ms mks ∧ 2 ≤ b ∧ b ≤ 16 ∧ Met b m g ∧ mks.length = m ∧ m ≤ 50000 ∧ (∀ m' g' mk', Canon b m' g' mk' F → m' ≤ most) ∧
  (∀ s, 1 ≤ s → s ≤ m → mks[s - 1]? = some (mk s)) ∧ (∀ n, 0 < n → mk (run g b n) = F n) ∧
  ∀ p H' m' g' ms' mk', H p = none → Sm H H' → Canon b m' g' mk' F → m' ≤ m → GridAt C H' p b g' ms' → MarksAre km H' ms' mk' m' → Q (.ref p) H'
theorem g_least_grid {M : Type} [DecidableEq M] (km : KI M) {f C : Addr} (T : Bt mg) (c : GrC K C) (D : Df K "least_grid" "least_grid" s_least_grid f) (m : mg "least_grid" = some (.ref f)) (G1 : Fn P w K mg base CXN 2 "classes_of" ["rows", "marks"] (spClasses km)) (G2 : Mkr P w K mg base CXN 1 C "Grid" ["self", "figures", "goals", "marks"] (spGridInit C)) :
    Fn P w K mg base CXN 3 "least_grid" ["figures", "rows", "marks", "most"] (spLeast km C) := by
  refine D.fn m sc_least_grid hb_least_grid (fun vs H Q E ⟨pr, pm, b, m, most, g, ms, mks, mk, F, e, _⟩ => by rw [e]; rfl) fun cdv A outer s H vs Q E hr ⟨pr, pm, b, m, most, g, ms, mks, mk, F, e, hrows, hpm, hkm, hb, hb2, met, hml, hm5, hmost, hmk, htl, k_⟩ => ?_
  subst e
  have hu := hu_of hr
  refine ⟨_, (pss_cons (ps_set (i := 4) sc_least_grid.nd rfl (Or.inr rfl) (pe_fn G1 hr (by rfl) pass0 (pa_cons (pv 1) (pa_cons (pv 2) pa_nil))))
    (pss_cons (ps_set (i := 5) sc_least_grid.nd rfl (Or.inl rfl) (pe_lst (pa_cons pe_int pa_nil)))
    (pss_cons (ps_set (i := 6) sc_least_grid.nd rfl (Or.inr rfl) (kN.new _ _))
    (pss_cons (ps_for PassesOwn.never rfl (pi_range2 rfl T.range (pa_cons pe_int (pa_cons (pe_callB (call_len_seqK (K := K) rfl) (by rfl) T.len PySem.boot_len (pa_cons (pv 1) pa_nil)) pa_nil))) (pg_name (i := 7) sc_least_grid.nd rfl (Or.inl rfl)) (pss_one (ps_if (pt_cmp (pc_knotin kN (P := P) (w := w) ⟨rfl, rfl⟩ hu (pe_ix (ix_listK (K := K) rfl) (pv 4) (pv 7) (fun _ _ => rfl)) (pv 6)) rfl) (pss_cons (ps_kput kN (P := P) (w := w) ⟨rfl, rfl⟩ hu (pv 6) (pe_ix (ix_listK (K := K) rfl) (pv 4) (pv 7) (fun _ _ => rfl)) (pe_callB (call_len_seqK (K := K) rfl) (by rfl) T.len PySem.boot_len (pa_cons (pv 5) pa_nil)) rfl)
    (pss_one (ps_expr (pe_bm PySem.F.plainAttrs_list PySem.F.slot_list_append PySem.F.type_list_append mt_append (pv 5) (pa_cons (pv 7) pa_nil))))) pss_nil)))
    (pss_cons (ps_if (pt_cmpR (op_gt) (pe_op op_sub (pe_callB (call_len_seqK (K := K) rfl) (by rfl) T.len PySem.boot_len (pa_cons (pv 5) pa_nil)) pe_int) (pv 3) (nomark _)) (pss_one ps_never) pss_nil)
    (pss_cons (ps_set (i := 8) sc_least_grid.nd rfl (Or.inl rfl) (pe_lst pa_nil))
    (pss_cons (ps_for PassesOwn.never rfl (pi_listK (K := K) rfl (pv 5)) (pg_name (i := 7) sc_least_grid.nd rfl (Or.inl rfl)) (pss_one (ps_expr (pe_bm PySem.F.plainAttrs_list PySem.F.slot_list_append PySem.F.type_list_append mt_append (pv 8) (pa_cons (pe_lc (own := [("later", 9)]) (g := gName 9) (tt := tYes) rfl sc_least_grid.nd (pi_listK (K := K) rfl (pe_ix (ix_listK (K := K) rfl) (pv 1) (pv 7) (fun _ _ => rfl))) (blkOk_by (own := [("later", 9)]) (N := N_least_grid) (sc := defScope s_least_grid) (by decide +kernel)) (fun _ _ _ _ _ => (pg_name (i := 9) sc_least_grid.nd rfl (Or.inl rfl))) (fun _ _ _ _ _ => pts_nil) (fun _ _ _ _ _ => (pe_ifExp (pt_cmp (pc_isN (pv 9)) rfl) pe_non (pe_kget kN (P := P) (w := w) ⟨rfl, rfl⟩ hu (pv 6) (pe_ix (ix_listK (K := K) rfl) (pv 4) (pv 9) (fun _ _ => rfl)) (fun _ _ => rfl))))) pa_nil)))))
    (pss_one (ps_ret (pe_mkr G2 hr (by rfl) pass0 (pa_cons (pv 0) (pa_cons (pv 8) (pa_cons (pe_lc (own := [("state", 7)]) (g := gName 7) (tt := tYes) rfl sc_least_grid.nd (pi_listK (K := K) rfl (pv 5)) (blkOk_by (own := [("state", 7)]) (N := N_least_grid) (sc := defScope s_least_grid) (by decide +kernel)) (fun _ _ _ _ _ => (pg_name (i := 7) sc_least_grid.nd rfl (Or.inl rfl))) (fun _ _ _ _ _ => pts_nil) (fun _ _ _ _ _ => (pe_ix (ix_listK (K := K) rfl) (pv 2) (pv 7) (fun _ _ => rfl)))) pa_nil))))))))))))), ?_⟩
  refine ⟨_, rfl, _, rfl, pr, pm, b, m, g, ms, mks, mk, rfl, hrows, hpm, hkm, hb, hb2, met.wf, hml, hm5, hmk, fun pc H1 cl hpc e1 hc1 st => ?_⟩
  have hcl := st.inv.len
  have wf := met.wf
  obtain ⟨as, hr1, hr2, hr3⟩ := id hrows
  refine ⟨by show 1 ≤ sizeLine; decide, fun pf hpf pd hpd => ?_⟩
  have nfd : pf ≠ pd := fun z => by rw [← z, upd_same] at hpd; cases hpd
  have hpd1 : H1 pd = none := by rw [upd_ne nfd.symm] at hpd; exact hpd
  have hr1' := e1.at_ _ _ hr1
  refine ⟨_, rfl, pr, _, rfl, .inl (SqL.of (((Sm.new hpf).mut hpd1).at_ _ _ hr1')), 1, _, rfl, ?_, ?_⟩
  · rw [List.length_map, hr2, wf.len]
    omega
  have hn : ((((as.map V.ref).length : Nat) : Int) - 1).toNat = m := by
    rw [List.length_map, hr2, wf.len]
    omega
  rw [hn]
  have getcl : ∀ i, i < m → cl[i]? = some (cl.getD i 0) := fun i hi => by
    rw [List.getD_eq_getElem?_getD, List.getElem?_eq_getElem (by rw [hcl]; exact hi)] <;> rfl
  have getc : ∀ i, i < m → (V.non :: nV cl)[i + 1]? = some (V.int (cl.getD i 0 : Nat)) := fun i hi => by
    rw [List.getElem?_cons_succ, List.getElem?_map, getcl i hi] <;> rfl
  refine for_range (lo := 1) (n := m) (fun i σ H' => ∃ o7 : Option V, σ = [some (.int b), some (.ref pr), some (.ref pm), some (.int most), some (.ref pc), some (.ref pf), some (.ref pd), o7, none, none] ∧
    Sm H1 H' ∧ H' pf = some (.lst (.int 0 :: nV (fst1 cl i))) ∧ H' pd = some (kN.ho P w pd (numsK 1 (dd (cl.take i))))) ⟨_, rfl, (Sm.new hpf).mut hpd1, by rw [upd_ne nfd, upd_same] <;> rfl, upd_same⟩ ?_ ?_
  · rintro i σ H2 hi ⟨o7, rfl, e2, hf2, hd2⟩
    have e1i : (1 : Int) + (i : Int) = ((i + 1 : Nat) : Int) := by omega
    rw [e1i]
    have hfl : (fst1 cl i).length = (dd (cl.take i)).length := by
      have := congrArg List.length (fst1_cls cl i (by omega))
      rw [List.length_map] at this
      exact this
    have hdl := dd_len (cl.take i)
    rw [List.length_take] at hdl
    have hc2 := e2.at_ _ _ hc1
    refine ⟨_, rfl, _, rfl, pc, _, _, _, rfl, rfl, SqL.of hc2, atI_nat (getc i hi), ?_⟩
    refine ⟨_, rfl, pd, _, cl.getD i 0, rfl, hd2, rfl, _, rfl, ?_⟩
    have ets : cl.take (i + 1) = cl.take i ++ [cl.getD i 0] := take_snoc cl (by omega)
    refine ifv (fun h => ?_) (fun h => ?_)
    · have hnm : cl.getD i 0 ∉ dd (cl.take i) := fun z => by
        rw [numsK_some _ (dd_nodup _) z] at h
        cases h
      have hf3 : (upd H2 pd (kN.ho P w pd (putK (numsK 1 (dd (cl.take i))) (cl.getD i 0) (.int ((V.int 0 :: nV (fst1 cl i)).length : Nat))))) pf = some (.lst (.int 0 :: nV (fst1 cl i))) := by
        rw [upd_ne nfd]; exact hf2
      refine ⟨_, rfl, pf, _, rfl, .inl (SqL.of hf2), _, rfl, _, rfl, _, rfl, pc, _, _, _, rfl, rfl, SqL.of hc2, atI_nat (getc i hi), pd, _, cl.getD i 0, rfl, hd2, rfl, by rw [numsK_len]; exact sz_lt (by omega), ?_⟩
      refine ⟨_, rfl, .inl ⟨rfl, _, SqL.of hf3⟩, _, rfl, pf, _, _, rfl, rfl, hf3, by rw [List.length_cons, List.length_map]; exact sz_lt (by omega), ?_⟩
      refine ⟨_, rfl, (e2.mut hpd1).mut hpf, ?_, ?_⟩
      · rw [upd_same, fst1, if_neg (fun z => hnm (mem_dd.mpr z))]
        unfold nV
        rw [List.map_append]
        rfl
      · rw [upd_ne nfd.symm, upd_same, ets, dd_snoc, putK_new _ (numsK_none hnm)]
        unfold ddS
        rw [if_neg hnm, numsK_snoc, List.length_cons, List.length_map, hfl]
    · have hm : cl.getD i 0 ∈ dd (cl.take i) := by
        apply Classical.byContradiction
        intro z
        rw [numsK_none z] at h
        cases h
      refine ⟨_, rfl, e2, ?_, ?_⟩
      · rw [hf2, fst1, if_pos (mem_dd.mp hm)]
      · rw [hd2, ets, dd_snoc]
        unfold ddS
        rw [if_pos hm]
  · rintro σ H2 ⟨o7, rfl, e2, hf2, hd2⟩
    have hlm : cl.take m = cl := by rw [← hcl, List.take_length]
    rw [hlm] at hd2
    have hfm : fst1 cl m = fst1 cl cl.length := by rw [hcl]
    rw [hfm] at hf2
    have hfl : (fst1 cl cl.length).length = (dd cl).length := fst1_len cl
    have hddm := dd_le_m st
    have q1 := quot1 wf st
    refine ⟨_, rfl, pf, _, rfl, .inl (SqL.of hf2), _, _, rfl, rfl, _, rfl, _, _, rfl, rfl, _, rfl, ?_⟩
    refine ifb (fun hlt => ?_) (fun _ => ?_)
    · exfalso
      rw [List.length_cons, List.length_map, hfl] at hlt
      have := hmost _ _ _ (q1.canon hb met htl)
      omega
    refine ⟨Nat.zero_le _, fun pl hpl => ?_⟩
    have hpl1 := e2.free hpl
    have e3 : Sm H1 (upd H2 pl (.lst [])) := e2.mut hpl1
    have nlf : pf ≠ pl := ne_of_none hf2 hpl
    have nld : pd ≠ pl := ne_of_none hd2 hpl
    have hf3 : (upd H2 pl (.lst [])) pf = some (.lst (.int 0 :: nV (fst1 cl cl.length))) := upd_get hf2 hpl
    have hd3 : (upd H2 pl (.lst [])) pd = some (kN.ho P w pd (numsK 1 (dd cl))) := upd_get hd2 hpl
    have getf : ∀ j, j ≤ (dd cl).length → (V.int 0 :: nV (fst1 cl cl.length))[j]? = some (V.int (rep1 cl j : Nat)) := fun j hj => by
      by_cases h0 : j = 0
      · rw [h0] <;> rfl
      · obtain ⟨k, rfl⟩ : ∃ k, j = k + 1 := ⟨j - 1, by omega⟩
        have := rep1_at cl (j := k + 1) (by omega) hj
        rw [Nat.add_sub_cancel] at this
        rw [List.getElem?_cons_succ, List.getElem?_map, this] <;> rfl
    refine ⟨_, rfl, pf, rfl, ⟨_, SqL.of hf3⟩, for_list (K := K) (a := pf) (xs := V.int 0 :: nV (fst1 cl cl.length)) (fun i σ H' => ∃ (o7 : Option V) (as2 : List Addr), σ = [some (.int b), some (.ref pr), some (.ref pm), some (.int most), some (.ref pc), some (.ref pf), some (.ref pd), o7, some (.ref pl), none] ∧
      Sm H1 H' ∧ H' pf = some (.lst (.int 0 :: nV (fst1 cl cl.length))) ∧ H' pd = some (kN.ho P w pd (numsK 1 (dd cl))) ∧ H' pl = some (.lst (as2.map V.ref)) ∧ as2.length = i ∧
        ∀ (j : Nat) (q : Addr), as2[j]? = some q → q ≠ pl ∧ ∃ r, g[rep1 cl j]? = some r ∧ H' q = some (.lst ((r.map (Option.map (cls1 cl))).map oV))) ⟨_, [], rfl, e3, hf3, hd3, upd_same, rfl, fun j q h => by simp at h⟩ ?_ ?_ ?_⟩
    · rintro i σ H4 _ ⟨o7, as2, _, _, h, _⟩
      exact SqL.of h
    · rintro i y σ H4 hi ⟨o7, as2, rfl, e4, hf4, hd4, hl4, hal, hrw⟩
      have hil : i ≤ (dd cl).length := by
        have := (List.getElem?_eq_some_iff.mp hi).1
        rw [List.length_cons, List.length_map, hfl] at this
        omega
      rw [getf i hil] at hi
      have hy : V.int (rep1 cl i : Nat) = y := Option.some.inj hi
      subst hy
      have hrm : rep1 cl i ≤ m := q1.rle hil
      obtain ⟨r, hr⟩ : ∃ r, g[rep1 cl i]? = some r := ⟨_, List.getElem?_eq_getElem (by rw [wf.len]; omega)⟩
      obtain ⟨q, hq, hq1⟩ := hr3 _ r hr
      have hrl : r.length = b := wf.row _ _ hr
      have hq4 := (e1.trans e4).at_ _ _ hq1
      refine ⟨_, rfl, .inl ⟨rfl, _, SqL.of hl4⟩, _, rfl, _, rfl, pr, _, _, _, rfl, rfl, SqL.of (e4.at_ _ _ hr1'), atI_nat (v := .ref q) (by rw [List.getElem?_map, hq] <;> rfl), q, rfl, ⟨_, SqL.of hq4⟩, fun Dt hDt =>
        lcm (K := K) (xs := r.map oV) (fun f y _ => ∃ x, r[f]? = some x ∧ y = oV (x.map (cls1 cl))) hDt (SqL.of hq4) (by rw [List.length_map]; omega) (fun x => rfl) (fun _ _ _ _ _ _ h => h) ?_ ?_⟩
      · intro f y H5 hy e5 _ Qk hQ
        rw [List.getElem?_map] at hy
        cases hx : r[f]? with
        | none => rw [hx] at hy; cases hy
        | some x =>
          rw [hx] at hy
          have hy : oV x = y := Option.some.inj hy
          subst hy
          refine ⟨_, rfl, _, rfl, ?_⟩
          cases x with
          | none => exact iteT (hQ _ H5 (Sm.refl _) ⟨none, hx, rfl⟩)
          | some t =>
            have hf : f < b := by rw [← hrl]; exact (List.getElem?_eq_some_iff.mp hx).1
            have et := ent_of hr hx
            have hp : 0 < rep1 cl i ∨ 0 < f := by
              apply Classical.byContradiction
              intro z
              have h0 : rep1 cl i = 0 := by omega
              have h1 : f = 0 := by omega
              rw [h0, h1, wf.e00] at et
              cases et
            obtain ⟨t', et', t1, t2⟩ := wf.ent _ f hrm hf hp
            rw [et] at et'
            have := Option.some.inj et'
            subst this
            obtain ⟨u, rfl⟩ : ∃ u, t = u + 1 := ⟨t - 1, by omega⟩
            refine iteF ⟨_, rfl, _, rfl, _, rfl, pc, _, _, _, rfl, rfl, SqL.of ((e4.trans e5).at_ _ _ hc1), atI_nat (getc u (by omega)), pd, _, cl.getD u 0, _, rfl, e5.at_ _ _ hd4, rfl, numsK_some _ (dd_nodup _) (mem_dd.mpr (List.mem_of_getElem? (getcl u (by omega)))), ?_⟩
            exact hQ _ H5 (Sm.refl _) ⟨some (u + 1), hx, rfl⟩
      · intro ys H5 hyl hys hDt5 e5
        have hys2 : ys = (r.map (Option.map (cls1 cl))).map oV := by
          rw [List.length_map] at hyl
          apply List.ext_getElem?
          intro f
          by_cases hf : f < ys.length
          · obtain ⟨x, hx, e⟩ := hys f _ (List.getElem?_eq_getElem hf)
            rw [List.getElem?_eq_getElem hf, e, List.getElem?_map, List.getElem?_map, hx] <;> rfl
          · rw [List.getElem?_eq_none (by omega), List.getElem?_eq_none (by rw [List.length_map, List.length_map]; omega)]
        have hl5 := e5.at_ _ _ hl4
        refine ⟨pl, _, _, rfl, rfl, hl5, by rw [List.length_map]; exact sz_lt (by omega), ?_⟩
        have nDl : Dt ≠ pl := (ne_of_none hl4 hDt).symm
        refine ⟨_, as2 ++ [Dt], rfl, (e4.trans e5).mut hpl1, by rw [upd_ne nlf]; exact e5.at_ _ _ hf4, by rw [upd_ne nld]; exact e5.at_ _ _ hd4, by rw [upd_same, List.map_append]; rfl, by rw [List.length_append, hal]; rfl, fun j q' hj => ?_⟩
        by_cases hji : j < as2.length
        · rw [List.getElem?_append_left hji] at hj
          obtain ⟨n1, r', h1, h2⟩ := hrw j q' hj
          exact ⟨n1, r', h1, by rw [upd_ne n1]; exact e5.at_ _ _ h2⟩
        · have hji2 : j = i := by
            have := (List.getElem?_eq_some_iff.mp hj).1
            rw [List.length_append, hal, List.length_singleton] at this
            omega
          rw [hji2, List.getElem?_append_right (by omega), hal, Nat.sub_self] at hj
          have hqq : Dt = q' := Option.some.inj hj
          subst hqq
          exact ⟨nDl, r, by rw [hji2]; exact hr, by rw [upd_ne nDl, hDt5, hys2]⟩
    · rintro σ H4 ⟨o7, as2, rfl, e4, hf4, hd4, hl4, hal, hrw⟩
      have hal2 : as2.length = (dd cl).length + 1 := by rw [hal, List.length_cons, List.length_map, hfl]
      refine ⟨_, rfl, _, rfl, _, rfl, pf, rfl, ⟨_, SqL.of hf4⟩, fun Dm hDm => lcm (K := K) (xs := V.int 0 :: nV (fst1 cl cl.length)) (fun j y _ => (V.non :: ms)[rep1 cl j]? = some y) hDm (SqL.of hf4) (by rw [List.length_cons, List.length_map, hfl]; omega) (fun x => rfl) (fun _ _ _ _ _ _ h => h) ?_ ?_⟩
      · intro j y H5 hj e5 _ Qk hQ
        have hjl : j ≤ (dd cl).length := by
          have := (List.getElem?_eq_some_iff.mp hj).1
          rw [List.length_cons, List.length_map, hfl] at this
          omega
        rw [getf j hjl] at hj
        have hy : V.int (rep1 cl j : Nat) = y := Option.some.inj hj
        subst hy
        have hml2 : ms.length = m := by rw [hkm.1, hml]
        have hrm : rep1 cl j ≤ m := q1.rle hjl
        obtain ⟨v, hv⟩ : ∃ v, (V.non :: ms)[rep1 cl j]? = some v := ⟨_, List.getElem?_eq_getElem (by rw [List.length_cons]; omega)⟩
        refine ⟨_, rfl, _, rfl, pm, _, _, _, rfl, rfl, SqL.of ((e1.trans (e4.trans e5)).at_ _ _ hpm), atI_nat hv, hQ _ H5 (Sm.refl _) hv⟩
      · intro ys H5 hyl hys hDm5 e5 x dx hx hdx hne
        have hml2 : ms.length = m := by rw [hkm.1, hml]
        rw [List.length_cons, List.length_map, hfl] at hyl
        obtain ⟨y0, ms', rfl⟩ : ∃ y0 ms', ys = y0 :: ms' := by
          cases ys with
          | nil => simp at hyl
          | cons a l => exact ⟨a, l, rfl⟩
        have hy0 : V.non = y0 := Option.some.inj (hys 0 y0 rfl)
        subst hy0
        rw [List.length_cons] at hyl
        refine ⟨x, dx, b, .ref pl, .ref Dm, rfl, upd_same, rfl, ?_⟩
        have e6 : Sm H5 (upd (upd (upd H5 dx (.own x)) x (.ins C dx [])) x (.ins C dx [("figures", .int b), ("goals", .ref pl), ("marks", .ref Dm)])) := ((Sm.new hdx).mut hx).mut hx
        have e15 := e1.trans (e4.trans (e5.trans e6))
        refine k_ x _ _ (lstG g cl) ms' (fun j => mk (rep1 cl j)) ((e1.trans (e4.trans e5)).free hx) e15 (q1.canon hb met htl) hddm ⟨dx, pl, Dm, upd_same, ⟨as2, e6.at_ _ _ (e5.at_ _ _ hl4), ?_, fun i r hr => ?_⟩, e6.at_ _ _ hDm5⟩ ⟨by omega, fun s h1 h2 => ?_⟩
        · unfold lstG
          rw [List.length_map, List.length_range]
          exact hal2
        · have hi : i < (dd cl).length + 1 := by
            have := (List.getElem?_eq_some_iff.mp hr).1
            unfold lstG at this
            rw [List.length_map, List.length_range] at this
            exact this
          obtain ⟨q, hq⟩ : ∃ q, as2[i]? = some q := ⟨_, List.getElem?_eq_getElem (by omega)⟩
          obtain ⟨_, r', h1, h2⟩ := hrw i q hq
          refine ⟨q, hq, ?_⟩
          unfold lstG at hr
          rw [List.getElem?_map, List.getElem?_range hi] at hr
          have hr := Option.some.inj hr
          dsimp only at hr
          rw [h1] at hr
          rw [← hr]
          exact (e5.trans e6).at_ _ _ h2
        · obtain ⟨t, rfl⟩ : ∃ t, s = t + 1 := ⟨s - 1, by omega⟩
          obtain ⟨r1, r2, _⟩ := q1.rep (t + 1) (by omega) h2
          obtain ⟨v, hv⟩ : ∃ v, ms'[t]? = some v := ⟨_, List.getElem?_eq_getElem (by omega)⟩
          have hv2 := hys (t + 1) v hv
          refine ⟨v, hv, ?_⟩
          obtain ⟨u, hu2⟩ : ∃ u, rep1 cl (t + 1) = u + 1 := ⟨rep1 cl (t + 1) - 1, by omega⟩
          have hmk2 := hmk (rep1 cl (t + 1)) r1 r2
          rw [hu2] at hv2 hmk2
          have := hkm.2 u v _ hv2 hmk2
          rw [hu2]
          exact km.keep (fun c zs hc => e15.at_ c _ hc) this
abbrev N_grid_of : List Str := ["figures", "step", "mark", "most", "rows", "marks"]
theorem sc_grid_of : FnScope N_grid_of ["figures", "step", "mark", "most"] (defScope s_grid_of) := ⟨rfl, rfl, rfl, by decide +kernel, rfl, by decide +kernel, by decide +kernel⟩
theorem hb_grid_of : HB s_grid_of "grid_of" "grid_of" ["figures", "step", "mark", "most"] := fun _ _ _ _ _ _ us hl => match us, hl with | [_, _, _, _], _ => rfl

/-- grid_of(figures, step, mark, most) -/
def spGridOf {S M : Type} [DecidableEq S] [DecidableEq M] (ki : KI S) (km : KI M) (C : Addr) (P : Program) (w : World) (K : PySem.W.Frag) (mg : Str → Option Value) (base : Heap) (kc : Nat) : Sp := fun vs H Q _ => ∃ (b most : Nat) (fs fm : Addr) (U : S → Prop) (Ul : List S) (stp : Option S → Nat → S) (mk : S → M) (F : Nat → M),
  vs = [.int b, .ref fs, .ref fm, .int most] ∧ Clo P w K mg base kc H fs (spStep ki b U stp) ∧ Clo P w K mg base kc H fm (spMark ki km U mk) ∧ 2 ≤ b ∧ b ≤ 16 ∧ (∀ x, U x → x ∈ Ul) ∧ Ul.length ≤ 50000 ∧ Ul.length ≤ most ∧
  (∀ o f, f < b → (∀ s, o = some s → U s) → (o = none → 0 < f) → U (stp o f)) ∧ (∀ n, 0 < n → ∀ x, stOf b stp n = some x → mk x = F n) ∧
  ∀ p H' m' g' ms' mk', H p = none → Sm H H' → Canon b m' g' mk' F → m' ≤ Ul.length → GridAt C H' p b g' ms' → MarksAre km H' ms' mk' m' → Q (.ref p) H'
theorem g_grid_of {S M : Type} [DecidableEq S] [DecidableEq M] (ki : KI S) (km : KI M) {f C : Addr} (T : Bt mg) (D : Df K "grid_of" "grid_of" s_grid_of f) (m : mg "grid_of" = some (.ref f))
    (G1 : Fn P w K mg base CXN 3 "explored" ["figures", "step", "mark"] (spExplored ki km P w K mg base 2)) (G2 : Fn P w K mg base CXN 3 "least_grid" ["figures", "rows", "marks", "most"] (spLeast km C)) :
    Fn P w K mg base CXN 4 "grid_of" ["figures", "step", "mark", "most"] (spGridOf ki km C P w K mg base 2) := by
  refine D.fn m sc_grid_of hb_grid_of (fun vs H Q E ⟨b, most, fs, fm, U, Ul, stp, mk, F, e, _⟩ => by rw [e]; rfl) fun cdv A outer s H vs Q E hr ⟨b, most, fs, fm, U, Ul, stp, mk, F, e, hcs, hcm, hb, hb2, hU, hUl, hUm, hcl, hF, k_⟩ => ?_
  subst e
  refine ⟨_, (pss_cons (ps_asg (pe_fn G1 hr (by rfl) pass0 (pa_cons (pv 0) (pa_cons (pv 1) (pa_cons (pv 2) pa_nil)))) (pg_tup rfl (pgs_cons (pg_name (i := 4) sc_grid_of.nd rfl (Or.inl rfl)) (pgs_cons (pg_name (i := 5) sc_grid_of.nd rfl (Or.inl rfl)) pgs_nil))))
    (pss_one (ps_ret (pe_fn G2 hr (by rfl) pass0 (pa_cons (pv 0) (pa_cons (pv 4) (pa_cons (pv 5) (pa_cons (pv 3) pa_nil)))))))), ?_⟩
  refine ⟨_, rfl, _, rfl, _, rfl, b, fs, fm, U, Ul, stp, mk, rfl, hcs, hcm, hb, hb2, hU, hUl, hcl, fun m p pr pm ms H1 hd hm hsU hp e1 hp1 hpr hrows hpm hms hkeys => ?_⟩
  refine ⟨p, _, rfl, SqT.of hp1, rfl, ?_⟩
  obtain ⟨sc, _⟩ := done_scan b stp hb hd
  have met := sc.met hb
  have hrun := done_run b stp hb hd
  have hlen := hd.len
  refine ⟨_, _, rfl, _, _, rfl, rfl, ?_⟩
  refine ⟨_, rfl, _, rfl, _, rfl, _, rfl, pr, pm, b, m, most, _, ms, _, fun s => (((dd (seen b stp (m + 1)))[s - 1]?).map mk).getD (F 1), F, rfl, hrows, hms, hkeys, hb, hb2, met, by rw [List.length_map]; exact hlen, by omega, fun m' g' mk' hc => ?_, fun s h1 h2 => ?_, fun n hn => ?_, ?_⟩
  · have hru : ∀ n, 0 < n → run (gridOf b stp (m + 1) (seen b stp (m + 1))) b n ∈ (List.range m).map (· + 1) := fun n hn => by
      obtain ⟨r1, r2⟩ := met.wf.run hb n hn
      exact List.mem_map.mpr ⟨run (gridOf b stp (m + 1) (seen b stp (m + 1))) b n - 1, List.mem_range.mpr (by omega), by omega⟩
    have hle := hc.le_of hb (run (gridOf b stp (m + 1) (seen b stp (m + 1))) b) _ hru (fun n k hn hk e f hf => by rw [run_snoc hb hf (.inl hn), run_snoc hb hf (.inl hk), e]) (fun n k hn hk e => by
      obtain ⟨r1, r2⟩ := met.wf.run hb n hn
      obtain ⟨x, hx⟩ : ∃ x, (dd (seen b stp (m + 1)))[run (gridOf b stp (m + 1) (seen b stp (m + 1))) b n - 1]? = some x := ⟨_, List.getElem?_eq_getElem (by omega)⟩
      have h1 := hrun n hn
      have h2 := hrun k hk
      rw [hx] at h1
      rw [← e, hx] at h2
      rw [← hF n hn x h1.symm, ← hF k hk x h2.symm])
    rw [List.length_map, List.length_range] at hle
    omega
  · obtain ⟨x, hx⟩ : ∃ x, (dd (seen b stp (m + 1)))[s - 1]? = some x := ⟨_, List.getElem?_eq_getElem (by omega)⟩
    dsimp only
    rw [List.getElem?_map, hx] <;> rfl
  · obtain ⟨r1, r2⟩ := met.wf.run hb n hn
    obtain ⟨x, hx⟩ : ∃ x, (dd (seen b stp (m + 1)))[run (gridOf b stp (m + 1) (seen b stp (m + 1))) b n - 1]? = some x := ⟨_, List.getElem?_eq_getElem (by omega)⟩
    dsimp only
    rw [hx]
    have := hrun n hn
    rw [hx] at this
    exact hF n hn x this.symm
  · intro p' H2 m' g' ms' mk' hp' e2 hc hm' hg hmk
    exact k_ p' H2 m' g' ms' mk' (e1.free hp') (e1.trans e2) hc (by omega) hg hmk
end
end Bz
end
section
set_option Elab.async false
set_option linter.all false
set_option maxRecDepth 100000
set_option maxHeartbeats 2000000
namespace Bz
open PySem PySem.Spec PyProof.Rows L2 LamX NdefX
/-! ### == of lists of data -/
structure Dok (K : PySem.W.Frag) (H : Hp) (v : V) (d : PyData) (n : Nat) : Prop where
  dp : Dp K H v d
  lay : d.canLay0 = true
  dep : d.depth ≤ n
theorem Dok.shaped {K : PySem.W.Frag} {H : Hp} {v : V} {d : PyData} {n : Nat} (h : Dok K H v d n) (hn : n ≤ 64) : SeqAt.shaped d = true := by
  unfold SeqAt.shaped
  rw [h.lay, Bool.true_and]
  exact decide_eq_true (Nat.le_trans h.dep hn)
theorem dok_all {K : PySem.W.Frag} {H : Hp} {α : Type} {n : Nat} (f : α → PyData) : ∀ (l : List α) (xs : List V), xs.length = l.length → (∀ (i : Nat) (x : V) (a : α), xs[i]? = some x → l[i]? = some a → Dok K H x (f a) n) → DpAll K H xs (l.map f) ∧ PyData.canLayAll0 (l.map f) = true ∧ PyData.depthAll (l.map f) ≤ n := by
  intro l
  induction l with
  | nil =>
    intro xs hl _
    cases xs with
    | nil => exact ⟨.nil, by simp [PyData.canLayAll0], by simp [PyData.depthAll]⟩
    | cons x xs => simp at hl
  | cons a l ih =>
    intro xs hl h
    cases xs with
    | nil => simp at hl
    | cons x xs =>
      obtain ⟨h1, h2, h3⟩ := ih xs (by simpa using hl) fun i y b hy hb => h (i + 1) y b hy hb
      have h0 := h 0 x a rfl rfl
      refine ⟨.cons h0.dp h1, ?_, ?_⟩
      · show PyData.canLayAll0 (f a :: l.map f) = true
        simp [PyData.canLayAll0, h0.lay, h2]
      · show PyData.depthAll (f a :: l.map f) ≤ n
        simp only [PyData.depthAll]
        exact Nat.max_le.mpr ⟨h0.dep, h3⟩
theorem dok_list {K : PySem.W.Frag} {H : Hp} {α : Type} {n : Nat} {a : Addr} (f : α → PyData) {l : List α} {xs : List V} (hs : SqL K H a xs) (hl : xs.length = l.length) (h : ∀ (i : Nat) (x : V) (a : α), xs[i]? = some x → l[i]? = some a → Dok K H x (f a) n) : Dok K H (.ref a) (.list (l.map f)) (n + 1) := by
  obtain ⟨h1, h2, h3⟩ := dok_all f l xs hl h
  exact ⟨.lst hs h1, by simp [PyData.canLay0, h2], by simp only [PyData.depth]; omega⟩
theorem eqvAll_map {α : Type} (f : α → PyData) (hf : ∀ x y, PyData.eqv (f x) (f y) = true ↔ x = y) : ∀ l l' : List α, PyData.eqvAll (l.map f) (l'.map f) = true ↔ l = l' := by
  intro l
  induction l with
  | nil => intro l'; cases l' <;> simp [PyData.eqvAll]
  | cons a l ih =>
    intro l'
    cases l' with
    | nil => simp [PyData.eqvAll]
    | cons b l' =>
      simp only [List.map_cons, PyData.eqvAll, Bool.and_eq_true, hf, ih, List.cons.injEq]
theorem eqv_list {α : Type} (f : α → PyData) (hf : ∀ x y, PyData.eqv (f x) (f y) = true ↔ x = y) (l l' : List α) : PyData.eqv (.list (l.map f)) (.list (l'.map f)) = true ↔ l = l' := by
  simp only [PyData.eqv]
  exact eqvAll_map f hf l l'
/-- a state, or none -/
def oD : Option Nat → PyData
  | none => .none
  | some k => .int (k : Int)
theorem oD_inj (x y : Option Nat) : PyData.eqv (oD x) (oD y) = true ↔ x = y := by
  cases x <;> cases y <;> simp [oD, PyData.eqv]
  omega
/-- a truth, or none -/
def bD : Option Bool → PyData
  | none => .none
  | some b => .bool b
theorem bD_inj (x y : Option Bool) : PyData.eqv (bD x) (bD y) = true ↔ x = y := by
  cases x <;> cases y <;> simp [bD, PyData.eqv]
end Bz
end
section
set_option Elab.async false
set_option linter.all false
set_option maxRecDepth 100000
set_option maxHeartbeats 4000000
namespace Bz
open PySem PySem.Spec PyProof.Rows L2 LamX NdefX
/-- the numbers of the text -/
structure Its (mg : Str → Option Value) : Prop where
  lb : ∃ t, mg "LEAST_BASE" = some (.int 2 t)
  mb : ∃ t, mg "MOST_BASE" = some (.int 16 t)
  ms : ∃ t, mg "MOST_SIZE" = some (.int 200 t)
  md : ∃ t, mg "MOST_DIVISOR" = some (.int 12 t)
/-- what a type's name makes of is_whole -/
def whB (n : String) : Option Bool := (kitB n "int").bind fun i => (kitB n "bool").map fun j => i && !j
section
variable {P : Program} {w : World} {K : PySem.W.Frag} {mg : Str → Option Value} {base : Heap}
abbrev N_is_whole : List Str := ["value"]
theorem sc_is_whole : FnScope N_is_whole ["value"] (defScope s_is_whole) := ⟨rfl, rfl, rfl, by decide +kernel, rfl, by decide +kernel, by decide +kernel⟩
theorem hb_is_whole : HB s_is_whole "is_whole" "is_whole" ["value"] := fun _ _ _ _ _ _ us hl => match us, hl with | [_], _ => rfl

def spWhole (K : PySem.W.Frag) : Sp := fun vs H Q _ => ∃ (x : V) (n : String) (b : Bool), vs = [x] ∧ TyX K H x (.type n) ∧ whB n = some b ∧ Q (.bl b) H
theorem g_is_whole {f : Addr} (T : Bt mg) (D : Df K "is_whole" "is_whole" s_is_whole f) (m : mg "is_whole" = some (.ref f)) : Fn P w K mg base CXN 1 "is_whole" ["value"] (spWhole K) := by
  refine D.fn m sc_is_whole hb_is_whole (fun vs H Q E ⟨x, n, b, e, _⟩ => by rw [e]; rfl) fun cdv A outer s H vs Q E hr ⟨x, n, b, e, ty, wb, k_⟩ => ?_
  subst e
  refine ⟨_, (pss_one (ps_ret (pe_and (pe_callB call_isi (by rfl) T.isinstance (by decide +kernel) (pa_cons (pv 0) (pa_cons (pe_bltn (v := .ty "int") (u := .type "int") rfl T.int (by decide +kernel) rfl) pa_nil))) (pe_one (pe_not (pe_callB call_isi (by rfl) T.isinstance (by decide +kernel) (pa_cons (pv 0) (pa_cons (pe_bltn (v := .ty "bool") (u := .type "bool") rfl T.bool (by decide +kernel) rfl) pa_nil)))))))), ?_⟩
  obtain ⟨i, hi, wb⟩ := Option.bind_eq_some_iff.mp wb
  obtain ⟨j, hj, e⟩ := Option.map_eq_some_iff.mp wb
  refine ⟨_, rfl, x, .ty "int", .type n, .type "int", i, rfl, ClsV.ty _, ty, kit_ty hi, i, rfl, ?_⟩
  cases i with
  | false => exact iteF (by rw [← e] at k_; exact k_)
  | true => exact iteT ⟨_, rfl, x, .ty "bool", .type n, .type "bool", j, rfl, ClsV.ty _, ty, kit_ty hj, j, rfl, by rw [← e] at k_; exact k_⟩
theorem wh_int : whB "int" = some true := by decide +kernel
theorem wh_bool : whB "bool" = some false := by decide +kernel
theorem wh_none : whB "NoneType" = some false := by decide +kernel
theorem wh_str : whB "str" = some false := by decide +kernel
theorem wh_list : whB "list" = some false := by decide +kernel
theorem wh_tuple : whB "tuple" = some false := by decide +kernel
theorem wh_dict : whB "dict" = some false := by decide +kernel
abbrev N_check_base : List Str := ["base"]
theorem sc_check_base : FnScope N_check_base ["base"] (defScope s_check_base) := ⟨rfl, rfl, rfl, by decide +kernel, rfl, by decide +kernel, by decide +kernel⟩
theorem hb_check_base : HB s_check_base "check_base" "check_base" ["base"] := fun _ _ _ _ _ _ us hl => match us, hl with | [_], _ => rfl

/-- check_base(base), a good one -/
def spCheckBase : Sp := fun vs H Q _ => ∃ b : Nat, vs = [.int b] ∧ 2 ≤ b ∧ b ≤ 16 ∧ Q .non H
theorem g_check_base {f : Addr} (T : Bt mg) (I : Its mg) (D : Df K "check_base" "check_base" s_check_base f) (m : mg "check_base" = some (.ref f)) (G1 : Fn P w K mg base CXN 1 "is_whole" ["value"] (spWhole K)) : Fn P w K mg base CXN 2 "check_base" ["base"] spCheckBase := by
  refine D.fn m sc_check_base hb_check_base (fun vs H Q E ⟨b, e, _⟩ => by rw [e]; rfl) fun cdv A outer s H vs Q E hr ⟨b, e, h1, h2, k_⟩ => ?_
  subst e
  obtain ⟨tlb, hlb⟩ := I.lb
  obtain ⟨tmb, hmb⟩ := I.mb
  refine ⟨_, (pss_one (ps_if (PW.pt (pw_or (pt_not (pt_val (pe_fn G1 hr (by rfl) pass0 (pa_cons (pv 0) pa_nil)))) (pw_or1 (pt_not (pt_chain op_le op_le (pe_glob (v := .int 2) rfl hlb ⟨_, rfl⟩) (pv 0) (pe_glob (v := .int 16) rfl hmb ⟨_, rfl⟩)))))) (pss_one ps_never) pss_nil)), ?_⟩
  refine ⟨_, rfl, _, "int", true, rfl, .base (.int _), wh_int, true, rfl, ?_⟩
  refine iteF ⟨_, rfl, _, _, rfl, rfl, _, rfl, ?_⟩
  rw [decide_eq_true (show (2 : Int) ≤ (b : Int) by omega)]
  refine iteT ⟨_, _, rfl, rfl, _, rfl, ?_⟩
  rw [decide_eq_true (show (b : Int) ≤ (16 : Int) by omega)]
  exact iteF k_
abbrev N_check_divisor : List Str := ["number"]
theorem sc_check_divisor : FnScope N_check_divisor ["number"] (defScope s_check_divisor) := ⟨rfl, rfl, rfl, by decide +kernel, rfl, by decide +kernel, by decide +kernel⟩
theorem hb_check_divisor : HB s_check_divisor "check_divisor" "check_divisor" ["number"] := fun _ _ _ _ _ _ us hl => match us, hl with | [_], _ => rfl

def spCheckDivisor : Sp := fun vs H Q _ => ∃ n : Nat, vs = [.int n] ∧ 2 ≤ n ∧ n ≤ 12 ∧ Q .non H
theorem g_check_divisor {f : Addr} (T : Bt mg) (I : Its mg) (D : Df K "check_divisor" "check_divisor" s_check_divisor f) (m : mg "check_divisor" = some (.ref f)) (G1 : Fn P w K mg base CXN 1 "is_whole" ["value"] (spWhole K)) : Fn P w K mg base CXN 2 "check_divisor" ["number"] spCheckDivisor := by
  refine D.fn m sc_check_divisor hb_check_divisor (fun vs H Q E ⟨b, e, _⟩ => by rw [e]; rfl) fun cdv A outer s H vs Q E hr ⟨b, e, h1, h2, k_⟩ => ?_
  subst e
  obtain ⟨tmd, hmd⟩ := I.md
  refine ⟨_, (pss_one (ps_if (PW.pt (pw_or (pt_not (pt_val (pe_fn G1 hr (by rfl) pass0 (pa_cons (pv 0) pa_nil)))) (pw_or1 (pt_not (pt_chain op_le op_le pe_int (pv 0) (pe_glob (v := .int 12) rfl hmd ⟨_, rfl⟩)))))) (pss_one ps_never) pss_nil)), ?_⟩
  refine ⟨_, rfl, _, "int", true, rfl, .base (.int _), wh_int, true, rfl, ?_⟩
  refine iteF ⟨_, rfl, _, _, rfl, rfl, _, rfl, ?_⟩
  rw [decide_eq_true (show (2 : Int) ≤ (b : Int) by omega)]
  refine iteT ⟨_, _, rfl, rfl, _, rfl, ?_⟩
  rw [decide_eq_true (show (b : Int) ≤ (12 : Int) by omega)]
  exact iteF k_
abbrev N_check_rest : List Str := ["rest_due", "number"]
theorem sc_check_rest : FnScope N_check_rest ["rest_due", "number"] (defScope s_check_rest) := ⟨rfl, rfl, rfl, by decide +kernel, rfl, by decide +kernel, by decide +kernel⟩
theorem hb_check_rest : HB s_check_rest "check_rest" "check_rest" ["rest_due", "number"] := fun _ _ _ _ _ _ us hl => match us, hl with | [_, _], _ => rfl

def spCheckRest : Sp := fun vs H Q _ => ∃ r n : Nat, vs = [.int r, .int n] ∧ r < n ∧ Q .non H
theorem g_check_rest {f : Addr} (T : Bt mg) (D : Df K "check_rest" "check_rest" s_check_rest f) (m : mg "check_rest" = some (.ref f)) (G1 : Fn P w K mg base CXN 1 "is_whole" ["value"] (spWhole K)) : Fn P w K mg base CXN 2 "check_rest" ["rest_due", "number"] spCheckRest := by
  refine D.fn m sc_check_rest hb_check_rest (fun vs H Q E ⟨r, n, e, _⟩ => by rw [e]; rfl) fun cdv A outer s H vs Q E hr ⟨r, n, e, h1, k_⟩ => ?_
  subst e
  refine ⟨_, (pss_one (ps_if (PW.pt (pw_or (pt_not (pt_val (pe_fn G1 hr (by rfl) pass0 (pa_cons (pv 0) pa_nil)))) (pw_or1 (pt_not (pt_chain op_le op_lt pe_int (pv 0) (pv 1)))))) (pss_one ps_never) pss_nil)), ?_⟩
  refine ⟨_, rfl, _, "int", true, rfl, .base (.int _), wh_int, true, rfl, ?_⟩
  refine iteF ⟨_, rfl, _, _, rfl, rfl, _, rfl, ?_⟩
  rw [decide_eq_true (show (0 : Int) ≤ (r : Int) by omega)]
  refine iteT ⟨_, rfl, _, _, rfl, rfl, _, rfl, ?_⟩
  rw [decide_eq_true (show (r : Int) < (n : Int) by omega)]
  exact iteF k_
abbrev N_check_figure : List Str := ["figure", "base"]
theorem sc_check_figure : FnScope N_check_figure ["figure", "base"] (defScope s_check_figure) := ⟨rfl, rfl, rfl, by decide +kernel, rfl, by decide +kernel, by decide +kernel⟩
theorem hb_check_figure : HB s_check_figure "check_figure" "check_figure" ["figure", "base"] := fun _ _ _ _ _ _ us hl => match us, hl with | [_, _], _ => rfl

theorem g_check_figure {f : Addr} (T : Bt mg) (D : Df K "check_figure" "check_figure" s_check_figure f) (m : mg "check_figure" = some (.ref f)) (G1 : Fn P w K mg base CXN 1 "is_whole" ["value"] (spWhole K)) : Fn P w K mg base CXN 2 "check_figure" ["figure", "base"] spCheckRest := by
  refine D.fn m sc_check_figure hb_check_figure (fun vs H Q E ⟨r, n, e, _⟩ => by rw [e]; rfl) fun cdv A outer s H vs Q E hr ⟨r, n, e, h1, k_⟩ => ?_
  subst e
  refine ⟨_, (pss_one (ps_if (PW.pt (pw_or (pt_not (pt_val (pe_fn G1 hr (by rfl) pass0 (pa_cons (pv 0) pa_nil)))) (pw_or1 (pt_not (pt_chain op_le op_lt pe_int (pv 0) (pv 1)))))) (pss_one ps_never) pss_nil)), ?_⟩
  refine ⟨_, rfl, _, "int", true, rfl, .base (.int _), wh_int, true, rfl, ?_⟩
  refine iteF ⟨_, rfl, _, _, rfl, rfl, _, rfl, ?_⟩
  rw [decide_eq_true (show (0 : Int) ≤ (r : Int) by omega)]
  refine iteT ⟨_, rfl, _, _, rfl, rfl, _, rfl, ?_⟩
  rw [decide_eq_true (show (r : Int) < (n : Int) by omega)]
  exact iteF k_
/-! ### Kind -/
structure KiC (K : PySem.W.Frag) (mg : Str → Option Value) (CG C : Addr) : Prop where
  gr : GrC K CG
  cl : Cls K C
  nG : NoAttr K C "grid"
  kp : mg "Kind" = some (.ref C)
  ty : ∀ {H : Hp} {a dx : Addr} {fs : List (Str × V)}, H a = some (.ins C dx fs) → TyX K H (.ref a) (.ref C)
  self : PySem.W.kitOne K (.ref C) (.ref C) = some true
  ne : NeObj K C
/-- a Kind of the base b, of the numbers of which F is true -/
def KindAt (CG C : Addr) (H : Hp) (a : Addr) (b : Nat) (F : Nat → Bool) : Prop := ∃ (dx pg : Addr) (m : Nat) (g : Rows) (ms : List V) (mk : Nat → Bool), H a = some (.ins C dx [("grid", .ref pg)]) ∧ GridAt CG H pg b g ms ∧ Canon b m g mk F ∧ MarksAre kB H ms mk m ∧ m ≤ 200 ∧ 2 ≤ b ∧ b ≤ 16
theorem KindAt.kp {CG C : Addr} {H H' : Hp} (e : Kp H H') {a : Addr} {b : Nat} {F : Nat → Bool} (h : KindAt CG C H a b F) : KindAt CG C H' a b F := by
  obtain ⟨dx, pg, m, g, ms, mk, h1, h2, h3, h4, h5⟩ := h
  exact ⟨dx, pg, m, g, ms, mk, e.ins h1, h2.kp e, h3, ⟨h4.len, fun s a c => let ⟨v, q, r⟩ := h4.at_ s a c; ⟨v, q, r⟩⟩, h5⟩
abbrev N_Kind__init_ : List Str := ["self", "grid"]
theorem sc_Kind__init_ : FnScope N_Kind__init_ ["self", "grid"] (defScope s_Kind__init_) := ⟨rfl, rfl, rfl, by decide +kernel, rfl, by decide +kernel, by decide +kernel⟩
theorem hb_Kind__init_ : HB s_Kind__init_ "__init__" "Kind.__init__" ["self", "grid"] := fun _ _ _ _ _ _ us hl => match us, hl with | [_, _], _ => rfl

def spKindInit (C : Addr) : Sp := fun vs H Q _ => ∃ (p dx : Addr) (x : V), vs = [.ref p, x] ∧ H p = some (.ins C dx []) ∧ Q .non (upd H p (.ins C dx [("grid", x)]))
theorem g_Kind_init {f C CG : Addr} (c : KiC K mg CG C) (D : Df K "__init__" "Kind.__init__" s_Kind__init_ f) (m : Mk K C f) : Mkr P w K mg base CXN 1 C "Kind" ["self", "grid"] (spKindInit C) := by
  refine D.mkr m c.kp sc_Kind__init_ hb_Kind__init_ (fun vs H Q E ⟨p, dx, x, e, _⟩ => by rw [e]; rfl) fun cdv A outer s H vs Q E hr ⟨p, dx, x, e, hp, k_⟩ => ?_
  subst e
  refine ⟨_, (pss_one (ps_fld (pv 0) (pv 1) rfl)), ?_⟩
  exact ⟨_, rfl, _, rfl, p, C, dx, _, rfl, hp, c.cl, c.nG, by show 0 < 1000; decide, k_⟩
abbrev N_Kind_base : List Str := ["self"]
theorem sc_Kind_base : FnScope N_Kind_base ["self"] (defScope s_Kind_base) := ⟨rfl, rfl, rfl, by decide +kernel, rfl, by decide +kernel, by decide +kernel⟩
theorem hb_Kind_base : HB s_Kind_base "base" "Kind.base" ["self"] := fun _ _ _ _ _ _ us hl => match us, hl with | [_], _ => rfl

def spBase (CG C : Addr) : Sp := fun vs H Q _ => ∃ (a : Addr) (b : Nat) (F : Nat → Bool), vs = [.ref a] ∧ KindAt CG C H a b F ∧ Q (.int b) H
theorem g_base {f C CG : Addr} (c : KiC K mg CG C) (D : Df K "base" "Kind.base" s_Kind_base f) (m : Meth K C "base" f) : Mt P w K mg base CXN 1 C "base" ["self"] (spBase CG C) := by
  refine D.mt m sc_Kind_base hb_Kind_base (fun vs H Q E ⟨a, b, F, e, _⟩ => by rw [e]; rfl) fun cdv A outer s H vs Q E hr ⟨a, b, F, e, hk, k_⟩ => ?_
  subst e
  refine ⟨_, (pss_one (ps_ret (pe_fldK (K := K) rfl (pe_fldK (K := K) rfl (pv 0) rfl) rfl))), ?_⟩
  obtain ⟨dx, pg, m, g, ms, mk, h1, ⟨dg, pgo, pm, h2, _⟩, _⟩ := id hk
  exact ⟨_, rfl, a, C, dx, _, _, rfl, h1, c.cl, c.nG, lk_eq _ _ _, pg, CG, dg, _, _, rfl, h2, c.gr.cl, c.gr.nF, gr_F b pgo pm, k_⟩
abbrev N_Kind__contains_ : List Str := ["self", "number"]
theorem sc_Kind__contains_ : FnScope N_Kind__contains_ ["self", "number"] (defScope s_Kind__contains_) := ⟨rfl, rfl, rfl, by decide +kernel, rfl, by decide +kernel, by decide +kernel⟩
theorem hb_Kind__contains_ : HB s_Kind__contains_ "__contains__" "Kind.__contains__" ["self", "number"] := fun _ _ _ _ _ _ us hl => match us, hl with | [_, _], _ => rfl

/-- what `in` says of a value -/
def InR (K : PySem.W.Frag) (H : Hp) (F : Nat → Bool) (x : V) (r : Bool) : Prop := (∃ n : Nat, 0 < n ∧ n < 2 ^ 3000 ∧ x = .int n ∧ r = F n) ∨ (∃ z : Int, z ≤ 0 ∧ x = .int z ∧ r = false) ∨ (∃ n, TyX K H x (.type n) ∧ whB n = some false ∧ r = false)
def spIn (K : PySem.W.Frag) (CG C : Addr) : Sp := fun vs H Q _ => ∃ (a : Addr) (x : V) (b : Nat) (F : Nat → Bool) (r : Bool), vs = [.ref a, x] ∧ KindAt CG C H a b F ∧ InR K H F x r ∧ ∀ H', Sm H H' → Q (.bl r) H'
theorem g_contains {f C CG : Addr} (T : Bt mg) (c : KiC K mg CG C) (D : Df K "__contains__" "Kind.__contains__" s_Kind__contains_ f) (m : Meth K C "__contains__" f) (G1 : Fn P w K mg base CXN 1 "is_whole" ["value"] (spWhole K)) (G2 : Mt P w K mg base CXN 3 CG "mark_of" ["self", "number"] (spMarkOf CG)) : Mt P w K mg base CXN 4 C "__contains__" ["self", "number"] (spIn K CG C) := by
  refine D.mt m sc_Kind__contains_ hb_Kind__contains_ (fun vs H Q E ⟨a, x, b, F, r, e, _⟩ => by rw [e]; rfl) fun cdv A outer s H vs Q E hr ⟨a, x, b, F, r, e, hk, hin, k_⟩ => ?_
  subst e
  refine ⟨_, (pss_one (ps_ret (pe_and (pe_fn G1 (hr.mono (by decide)) (by rfl) pass0 (pa_cons (pv 1) pa_nil)) (pe_and (pe_cmpR (op_gt) (pv 1) pe_int (nomark _)) (pe_one (pe_mt G2 c.gr.cl hr (pe_fldK (K := K) rfl (pv 0) rfl) pass0 (pa_cons (pv 1) pa_nil))))))), ?_⟩
  obtain ⟨dx, pg, m, g, ms, mk, h1, hg, hc, hms, hm2, hb, hb2⟩ := id hk
  obtain ⟨dg, pgo, pm, h2, h3⟩ := id hg
  rcases hin with ⟨n, n0, n1, rfl, rfl⟩ | ⟨z, hz, rfl, rfl⟩ | ⟨n, ty, wb, rfl⟩
  · refine ⟨_, rfl, _, "int", true, rfl, .base (.int _), wh_int, true, rfl, iteT ⟨_, rfl, _, _, rfl, rfl, _, rfl, ?_⟩⟩
    rw [decide_eq_true (show (0 : Int) < (n : Int) by omega)]
    refine iteT ⟨_, rfl, a, C, dx, _, _, rfl, h1, c.cl, c.nG, lk_eq _ _ _, pg, dg, _, rfl, h2, gr_no b pgo pm (by decide +kernel) (by decide +kernel) (by decide +kernel), _, rfl, pg, n, b, m, g, ms, rfl, hg, hb, hb2, hc.met.wf, n0, n1, hms.len.symm, fun H' v e hv => ?_⟩
    obtain ⟨r1, r2⟩ := hc.met.wf.run hb n n0
    obtain ⟨v', q1, q2⟩ := hms.at_ _ r1 r2
    rw [hv] at q1
    rw [Option.some.inj q1, show v' = V.bl (mk (run g b n)) from q2, hc.tells n n0]
    exact k_ H' e
  · refine ⟨_, rfl, _, "int", true, rfl, .base (.int _), wh_int, true, rfl, iteT ⟨_, rfl, _, _, rfl, rfl, _, rfl, ?_⟩⟩
    rw [decide_eq_false (show ¬ (0 : Int) < z by omega)]
    exact iteF (k_ H (Sm.refl H))
  · exact ⟨_, rfl, _, n, false, rfl, ty, wb, false, rfl, iteF (k_ H (Sm.refl H))⟩
abbrev N_Kind__eq_ : List Str := ["self", "other"]
theorem sc_Kind__eq_ : FnScope N_Kind__eq_ ["self", "other"] (defScope s_Kind__eq_) := ⟨rfl, rfl, rfl, by decide +kernel, rfl, by decide +kernel, by decide +kernel⟩
theorem hb_Kind__eq_ : HB s_Kind__eq_ "__eq__" "Kind.__eq__" ["self", "other"] := fun _ _ _ _ _ _ us hl => match us, hl with | [_, _], _ => rfl

theorem marks_list {H : Hp} {ms : List V} {mk : Nat → Bool} {m : Nat} (h : MarksAre kB H ms mk m) : ∀ (i : Nat) (x : V) (o : Option Bool), (V.non :: ms)[i]? = some x → (none :: (List.range m).map fun i => some (mk (i + 1)))[i]? = some o → Dok K H x (bD o) 0 := by
  intro i x o h1 h2
  cases i with
  | zero =>
    cases h1
    cases h2
    exact ⟨.non, by simp [bD, PyData.canLay0], by simp [bD, PyData.depth]⟩
  | succ i =>
    rw [List.getElem?_cons_succ] at h1 h2
    have hi : i < m := by
      have := (List.getElem?_eq_some_iff.mp h1).1
      rw [h.len] at this
      exact this
    rw [List.getElem?_map, List.getElem?_range hi] at h2
    have h2 := Option.some.inj h2
    obtain ⟨v, q1, q2⟩ := h.at_ (i + 1) (by omega) (by omega)
    rw [Nat.add_sub_cancel, h1] at q1
    rw [← h2, Option.some.inj q1, show v = V.bl (mk (i + 1)) from q2]
    exact ⟨.bl _, by simp [bD, PyData.canLay0], by simp [bD, PyData.depth]⟩
theorem rows_dok {H : Hp} {p : Addr} {g : Rows} (h : RowsAt H p g) : Dok K H (.ref p) (.list (g.map fun r => .list (r.map oD))) 2 := by
  obtain ⟨as, h1, h2, h3⟩ := h
  refine dok_list (n := 1) _ (SqL.of h1) (by rw [List.length_map]; exact h2) fun i x r hx hr => ?_
  obtain ⟨q, hq, hq2⟩ := h3 i r hr
  rw [List.getElem?_map, hq] at hx
  rw [← Option.some.inj hx]
  refine dok_list (n := 0) _ (SqL.of hq2) (by rw [List.length_map]) fun j y o hy ho => ?_
  rw [List.getElem?_map, ho] at hy
  rw [← Option.some.inj hy]
  cases o with
  | none => exact ⟨.non, by simp [oD, PyData.canLay0], by simp [oD, PyData.depth]⟩
  | some k => exact ⟨.int _, by simp [oD, PyData.canLay0], by simp [oD, PyData.depth]⟩
theorem canon_eq {b m m' : Nat} {g g' : Rows} {mk mk' F F' : Nat → Bool} (hb : 2 ≤ b) (c : Canon b m g mk F) (c' : Canon b m' g' mk' F') :
    (g = g' ∧ (none :: (List.range m).map fun i => some (mk (i + 1)) : List (Option Bool)) = none :: (List.range m').map fun i => some (mk' (i + 1))) ↔ ∀ n, 0 < n → F n = F' n := by
  constructor
  · rintro ⟨rfl, e⟩ n hn
    have em : m = m' := by
      have := c.met.wf.len
      have := c'.met.wf.len
      omega
    subst em
    obtain ⟨r1, r2⟩ := c.met.wf.run hb n hn
    rw [← c.tells n hn, ← c'.tells n hn]
    have := congrArg (fun l : List (Option Bool) => l[run g b n]?) e
    obtain ⟨j, hj⟩ : ∃ j, run g b n = j + 1 := ⟨run g b n - 1, by omega⟩
    rw [hj] at this ⊢
    simp only [List.getElem?_cons_succ, List.getElem?_map, List.getElem?_range (show j < m by omega)] at this
    exact Option.some.inj (Option.some.inj this)
  · intro h
    have c2 : Canon b m' g' mk' F := ⟨c'.met, fun n hn => (c'.tells n hn).trans (h n hn).symm, c'.least⟩
    obtain ⟨e1, e2, e3⟩ := c.uniq hb c2
    subst e1
    refine ⟨e2, ?_⟩
    congr 1
    apply List.map_congr_left
    intro i hi
    have := List.mem_range.mp hi
    rw [e3 (i + 1) (by omega) (by omega)]
def spKEq (CG C : Addr) : Sp := fun vs H Q _ => ∃ (a a' : Addr) (b b' : Nat) (F F' : Nat → Bool), vs = [.ref a, .ref a'] ∧ KindAt CG C H a b F ∧ KindAt CG C H a' b' F' ∧ ∀ r : Bool, (r = true ↔ b = b' ∧ ∀ n, 0 < n → F n = F' n) → Q (.bl r) H
theorem g_eq {f C CG : Addr} (T : Bt mg) (c : KiC K mg CG C) (D : Df K "__eq__" "Kind.__eq__" s_Kind__eq_ f) (m : Meth K C "__eq__" f) : Mt P w K mg base CXN 1 C "__eq__" ["self", "other"] (spKEq CG C) := by
  refine D.mt m sc_Kind__eq_ hb_Kind__eq_ (fun vs H Q E ⟨a, a', b, b', F, F', e, _⟩ => by rw [e]; rfl) fun cdv A outer s H vs Q E hr ⟨a, a', b, b', F, F', e, hk, hk', k_⟩ => ?_
  subst e
  have hu64 := hr.units
  refine ⟨_, (pss_cons (ps_if (PW.pt (pw_or (pt_not (pt_val (pe_callB call_isi (by rfl) T.isinstance (by decide +kernel) (pa_cons (pv 1) (pa_cons (pe_glob (v := .ref C) rfl c.kp rfl) pa_nil))))) (pw_or1 (pt_cmpR (op_ne) (pe_fldK (K := K) rfl (pe_fldK (K := K) rfl (pv 0) rfl) rfl) (pe_fldK (K := K) rfl (pe_fldK (K := K) rfl (pv 1) rfl) rfl) (nomark _))))) (pss_one (ps_ret pe_bl)) pss_nil)
    (pss_one (ps_ret (pe_and (pe_cmpR (op_eqDK (K := K) rfl hu64) (pe_fldK (K := K) rfl (pe_fldK (K := K) rfl (pv 0) rfl) rfl) (pe_fldK (K := K) rfl (pe_fldK (K := K) rfl (pv 1) rfl) rfl) (nomark _)) (pe_one (pe_cmpR (op_eqDK (K := K) rfl hu64) (pe_fldK (K := K) rfl (pe_fldK (K := K) rfl (pv 0) rfl) rfl) (pe_fldK (K := K) rfl (pe_fldK (K := K) rfl (pv 1) rfl) rfl) (nomark _))))))), ?_⟩
  obtain ⟨dx, pg, m, g, ms, mk, h1, ⟨dg, pgo, pm, h2, h3, h4⟩, hc, hms, hm2, hb, hb2⟩ := id hk
  obtain ⟨dx', pg', m', g', ms', mk', h1', ⟨dg', pgo', pm', h2', h3', h4'⟩, hc', hms', hm2', hb', hb2'⟩ := id hk'
  have ng : ∀ x : V, List.lookup ("grid" : Str) [(("grid" : Str), x)] = some x := fun x => lk_eq _ _ _
  have hl : (V.non :: ms).length = (none :: (List.range m).map fun i => some (mk (i + 1)) : List (Option Bool)).length := by
    rw [List.length_cons, List.length_cons, List.length_map, List.length_range, hms.len]
  have hl' : (V.non :: ms').length = (none :: (List.range m').map fun i => some (mk' (i + 1)) : List (Option Bool)).length := by
    rw [List.length_cons, List.length_cons, List.length_map, List.length_range, hms'.len]
  have R := rows_dok (K := K) h3
  have R' := rows_dok (K := K) h3'
  have M := dok_list (K := K) (n := 0) bD (SqL.of h4) hl (marks_list hms)
  have M' := dok_list (K := K) (n := 0) bD (SqL.of h4') hl' (marks_list hms')
  have E1 := eqv_list (fun r : List (Option Nat) => PyData.list (r.map oD)) (eqv_list oD oD_inj) g g'
  have E2 := eqv_list bD bD_inj (none :: (List.range m).map fun i => some (mk (i + 1))) (none :: (List.range m').map fun i => some (mk' (i + 1)))
  refine ⟨_, rfl, _, .ref C, _, .ref C, true, rfl, ClsV.own C, c.ty h1', c.self, true, rfl, ?_⟩
  refine iteF ⟨_, rfl, a, C, dx, _, _, rfl, h1, c.cl, c.nG, ng _, pg, CG, dg, _, _, rfl, h2, c.gr.cl, c.gr.nF, gr_F b pgo pm, _, rfl, a', C, dx', _, _, rfl, h1', c.cl, c.nG, ng _, pg', CG, dg', _, _, rfl, h2', c.gr.cl, c.gr.nF, gr_F b' pgo' pm', rfl, _, rfl, ?_⟩
  refine ifnb (fun hne => ?_) (fun heq => ?_)
  · refine k_ false ⟨fun z => (by cases z), fun z => absurd (by rw [z.1]) hne⟩
  have hbb : b = b' := by injection heq with z; omega
  subst hbb
  have CE := canon_eq hb hc hc'
  refine ⟨_, rfl, a, C, dx, _, _, rfl, h1, c.cl, c.nG, ng _, pg, CG, dg, _, _, rfl, h2, c.gr.cl, c.gr.nG, gr_G b pgo pm, _, rfl, a', C, dx', _, _, rfl, h1', c.cl, c.nG, ng _, pg', CG, dg', _, _, rfl, h2', c.gr.cl, c.gr.nG, gr_G b pgo' pm', _, _, R.dp, R'.dp, R.shaped (by decide), R'.shaped (by decide), _, rfl, ?_⟩
  refine ifv (fun e1 => ?_) (fun e1 => ?_)
  · refine ⟨_, rfl, a, C, dx, _, _, rfl, h1, c.cl, c.nG, ng _, pg, CG, dg, _, _, rfl, h2, c.gr.cl, c.gr.nM, gr_M b pgo pm, _, rfl, a', C, dx', _, _, rfl, h1', c.cl, c.nG, ng _, pg', CG, dg', _, _, rfl, h2', c.gr.cl, c.gr.nM, gr_M b pgo' pm', _, _, M.dp, M'.dp, M.shaped (by decide), M'.shaped (by decide), ?_⟩
    refine k_ _ ⟨fun z => ⟨rfl, CE.mp ⟨E1.mp e1, E2.mp z⟩⟩, fun z => E2.mpr (CE.mpr z.2).2⟩
  · refine k_ false ⟨fun z => (by cases z), fun z => ?_⟩
    rw [E1.mpr (CE.mpr z.2).1] at e1
    cases e1
end
end Bz
end
section
set_option Elab.async false
set_option linter.all false
set_option maxRecDepth 100000
set_option maxHeartbeats 2000000
namespace Bz
open PySem PySem.Spec PyProof.Rows L2 LamX NdefX
/-! ### small rules -/
/-- x is True, x a truth or none -/
def rIsB : R2 := fun x y H Q => ∃ t, y = .bl t ∧ (x = .non ∨ ∃ b, x = .bl b) ∧ Q (.bl (decide (x = y))) H
theorem op_isTr {X : Cx} : OpR X (compareOp .Is) rIsB := by
  intro pins s σ H x y v u Q I rx ry h
  obtain ⟨t, rfl, hx, q⟩ := h
  cases ry
  refine wpAny_is_plain ?_ ?_
  · rcases hx with rfl | ⟨b, rfl⟩ <;> cases rx <;> rfl
  · refine ⟨.bl _, H, I, ?_, q⟩
    rcases hx with rfl | ⟨b, rfl⟩
    · cases rx; rfl
    · cases rx
      cases b <;> cases t <;> rfl
/-- x *= y of great ints -/
def ipW : TIp := fun x y H Q => ∃ i j : Int, x = .int i ∧ y = .int j ∧ CMulW i j ∧ Q (.int (i * j)) H
theorem ip_mulW {X : Cx} : PIp X .Mult ipW := by
  intro pins s σ H x y v u Q I r1 r2 h
  obtain ⟨i, j, rfl, rfl, hc, q⟩ := h
  obtain ⟨t, rfl⟩ := r1
  obtain ⟨t', rfl⟩ := r2
  exact imul_int ⟨.int _, H, I.tok _, ⟨_, rfl⟩, q⟩ hc.ok
/-- x is not True, x a truth or none -/
def rNotB : R2 := fun x y H Q => ∃ t, y = .bl t ∧ (x = .non ∨ ∃ b, x = .bl b) ∧ Q (.bl (!decide (x = y))) H
theorem op_notTr {X : Cx} : OpR X (compareOp .IsNot) rNotB := by
  intro pins s σ H x y v u Q I rx ry h
  obtain ⟨t, rfl, hx, q⟩ := h
  cases ry
  refine wpAny_isNot_plain ?_ ?_
  · rcases hx with rfl | ⟨b, rfl⟩ <;> cases rx <;> rfl
  · refine ⟨.bl _, H, I, ?_, q⟩
    rcases hx with rfl | ⟨b, rfl⟩
    · cases rx; rfl
    · cases rx
      cases b <;> cases t <;> rfl
/-- ** of an int that is not too great -/
def CPowW (i j : Int) : Prop := 0 ≤ j ∧ (Builtin.Int.intBits i : Int) * j ≤ 2 ^ 27
theorem op_powW {X : Cx} : OpR X (binaryOp .Pow) (rI CPowW fun i j => .int (i ^ j.toNat)) := opI fun _ _ _ _ _ _ _ hc q => pow_int hc.1 hc.2 q
theorem bits_le {x : Int} {k : Nat} (h : x.natAbs < 2 ^ k) : Builtin.Int.intBits x ≤ k + 1 := by
  unfold Builtin.Int.intBits
  split
  · omega
  · by_cases h0 : x.natAbs = 0
    · rw [h0]; simp
    · have := (Nat.log2_lt h0).mpr h
      omega
theorem powW_ok {x : Int} {k n : Nat} (h : x.natAbs < 2 ^ k) (hn : (k + 1) * n ≤ 134217728) : CPowW x (n : Int) := by
  refine ⟨by omega, ?_⟩
  have h1 : Builtin.Int.intBits x * n ≤ (k + 1) * n := Nat.mul_le_mul_right _ (bits_le h)
  have h2 : ((Builtin.Int.intBits x * n : Nat) : Int) ≤ 134217728 := by omega
  simpa using h2
/-- `in` of keywords: all the same -/
theorem iteK {p : Prop} [Decidable p] {A : Prop} (h1 : p → A) (h2 : ¬ p → A) : A := by
  by_cases h : p
  · exact h1 h
  · exact h2 h
end Bz
end
section
set_option Elab.async false
set_option linter.all false
set_option maxRecDepth 100000
set_option maxHeartbeats 4000000
namespace Bz
open PySem PySem.Spec PyProof.Rows L2 LamX NdefX
/-! ### the functions that make Kinds -/
/-- all stays but the tables of names -/
structure Kx (H H' : Hp) : Prop where
  ext : ExtN H H'
  dom : ∀ a, H' a = none → H a = none
theorem Sol.ntbl {o : HO} (s : Sol o) : ∀ ps, o ≠ .tbl ps := fun ps e => by subst e; exact s
theorem Kx.kp {H H' : Hp} (e : Kx H H') : Kp H H' := ⟨fun a o h s => e.ext a o h s.ntbl, e.dom⟩
theorem Kx.trans {H H1 H2 : Hp} (a : Kx H H1) (b : Kx H1 H2) : Kx H H2 := ⟨a.ext.trans b.ext, fun x h => a.dom x (b.dom x h)⟩
theorem Sm.kx {H H' : Hp} (e : Sm H H') : Kx H H' := ⟨ExtN.of e.at_, fun _ h => e.free h⟩
section
variable {P : Program} {w : World} {K : PySem.W.Frag} {mg : Str → Option Value} {base : Heap}
/-- a closure of the running frame, told with the frame's cells tracked -/
theorem clo_own {X : Cx} {σ : L2.St} {ob : Addr → Obj} (O : Own X σ ob) {H1 : Hp} (hun : ∀ c o, (ownC X ob).lookup c = some o → H1 c = none) {F : CF} {f : Addr} {fr : List Str} {js : List Nat} {k : Nat} {sp : Sp} (hf : H1 f = some (CFO f F)) (hc : H1 F.c = some (CodeO F.c F.qual))
    (hcl : F.cl = cloFrom X.env.cells F.scope.names []) (hnd : ndefB X.env.scope F.scope fr = true) (hjs : js.map (fun j => X.N[j]?) = fr.map some)
    (R : ∀ cs, CellsC F fr (js.map (slotAt σ)) cs → (∀ c o, cs.lookup c = some o → ∃ y, F.cl.lookup y = some c) → Runs P w K mg base k f F cs sp) : Clo P w K mg base k (trkC (ownC X ob) H1) f sp := by
  obtain ⟨C, all, sub⟩ := cellsC_of (nsc := F.scope) O hcl hnd hjs
  have out : ∀ a o, H1 a = some o → trkC (ownC X ob) H1 a = some o := fun a o h => by
    cases q : (ownC X ob).lookup a with
    | some u => rw [hun a u q] at h; cases h
    | none => rw [trk_out q]; exact h
  exact ⟨F, _, out _ _ hf, out _ _ hc, fun c o e => trk_in (sub c o e), R _ C all⟩
/-! what stands within a body -/
structure Inn (F : CF) (args : Arguments) (body : FuncBody) (sc : Scope) : Prop where
  params : F.params = args
  body : F.body = body
  scope : F.scope = sc
/-- a closure without effect: its value is told -/
theorem endC_of {cs : Cells} {H : Hp} {Q : VK} {v : V} (hc : ∀ c o, cs.lookup c = some o → H c = some (CellX c o)) (h : Q v H) : (∀ c o, cs.lookup c = some o → untC cs H c = none) → Q v (trkC cs (untC cs H)) := fun _ => by
  rw [trk_unt hc]; exact h
theorem modN_cast (x d : Nat) : (x : Int).fmod (d : Int) = ((x % d : Nat) : Int) := by
  rw [Int.fmod_eq_emod_of_nonneg _ (by omega)]; rfl
abbrev i_rest_step : Stmt := stAt (defBody s_rest) 3
theorem run_rest_step {f : Addr} {F : CF} {b d : Nat} {cs : Cells} (hb : b ≤ 16) (hd : 2 ≤ d) (hd2 : d ≤ 12) (I : Inn F (defArgs i_rest_step) (.stmts (defBody i_rest_step)) (defScope i_rest_step)) (C : CellsC F ["base", "number"] [some (.int b), some (.int d)] cs) (all : ∀ c o, cs.lookup c = some o → ∃ y, F.cl.lookup y = some c) :
    Runs P w K mg base 2 f F cs (spStep kN b (fun x => x < d) fun o f => (o.getD 0 * b + f) % d) := by
  obtain ⟨nm, q, pa, bo, sc, cl, c⟩ := F
  obtain ⟨e1, e2, e3⟩ := I
  simp only at e1 e2 e3
  subst e1 e2 e3
  refine runs_stmts (N := ["state", "figure", "base", "number"]) (ps := ["state", "figure"]) (nscope_by (sc := defScope i_rest_step) (by decide +kernel)) rfl (fun _ _ _ us hl => match us, hl with | [_, _], _ => rfl) C all (fun vs H Q E ⟨v, f, o, e, _⟩ => by rw [e]; rfl) fun A outer s H vs Q E hr hf hc ⟨v, fg, o, e, hf1, hk, hU, hpos, k_⟩ => ?_
  subst e
  refine ⟨_, (pss_one (ps_ret (pe_op op_modN (pe_op op_add (pe_op op_mulW (pe_ifExp (pt_cmp (pc_isN (pv 0)) rfl) pe_int (pv 0)) (pv 2)) (pv 1)) (pv 3)))), ?_⟩
  have fin : ∀ s : Nat, s < d ∨ s = 0 → (s * b + fg) % d = (o.getD 0 * b + fg) % d → CMulW (s : Int) (b : Int) ∧ Q (.int (((s : Int) * (b : Int) + (fg : Int)).fmod (d : Int))) H := fun s hs e => by
    refine ⟨wide_mul (a := 20) (b := 20) (by omega) (by omega) (by decide) (by decide) (by decide), ?_⟩
    have ec : ((s : Int) * (b : Int) + (fg : Int)) = ((s * b + fg : Nat) : Int) := by simp
    rw [ec, modN_cast, e]
    exact k_ H _ (Sm.refl H) rfl
  have hd0 : (d : Int) ≠ 0 := by omega
  cases o with
  | none =>
    have hk : v = .non := hk
    subst hk
    obtain ⟨f1, f2⟩ := fin 0 (.inr rfl) rfl
    exact ⟨_, rfl, _, rfl, iteT ⟨_, rfl, _, _, rfl, rfl, f1, _, rfl, _, _, rfl, rfl, _, rfl, _, _, rfl, rfl, hd0, endC_of hc f2⟩⟩
  | some s =>
    have hk : v = .int (s : Nat) := hk
    subst hk
    obtain ⟨f1, f2⟩ := fin s (.inl (hU s rfl)) rfl
    exact ⟨_, rfl, _, rfl, iteF ⟨_, rfl, _, rfl, _, _, rfl, rfl, f1, _, rfl, _, _, rfl, rfl, _, rfl, _, _, rfl, rfl, hd0, endC_of hc f2⟩⟩
abbrev i_figure_sum_step : Stmt := stAt (defBody s_figure_sum) 3
theorem run_figure_sum_step {f : Addr} {F : CF} {b d : Nat} {cs : Cells} (hd : 2 ≤ d) (I : Inn F (defArgs i_figure_sum_step) (.stmts (defBody i_figure_sum_step)) (defScope i_figure_sum_step)) (C : CellsC F ["number"] [some (.int d)] cs) (all : ∀ c o, cs.lookup c = some o → ∃ y, F.cl.lookup y = some c) :
    Runs P w K mg base 2 f F cs (spStep kN b (fun x => x < d) fun o f => (o.getD 0 + f) % d) := by
  obtain ⟨nm, q, pa, bo, sc, cl, c⟩ := F
  obtain ⟨e1, e2, e3⟩ := I
  simp only at e1 e2 e3
  subst e1 e2 e3
  refine runs_stmts (N := ["state", "figure", "number"]) (ps := ["state", "figure"]) (nscope_by (sc := defScope i_figure_sum_step) (by decide +kernel)) rfl (fun _ _ _ us hl => match us, hl with | [_, _], _ => rfl) C all (fun vs H Q E ⟨v, f, o, e, _⟩ => by rw [e]; rfl) fun A outer s H vs Q E hr hf hc ⟨v, fg, o, e, hf1, hk, hU, hpos, k_⟩ => ?_
  subst e
  refine ⟨_, (pss_one (ps_ret (pe_op op_modN (pe_op op_add (pe_ifExp (pt_cmp (pc_isN (pv 0)) rfl) pe_int (pv 0)) (pv 1)) (pv 2)))), ?_⟩
  have fin : ∀ s : Nat, (s + fg) % d = (o.getD 0 + fg) % d → Q (.int (((s : Int) + (fg : Int)).fmod (d : Int))) H := fun s e => by
    have ec : ((s : Int) + (fg : Int)) = ((s + fg : Nat) : Int) := by simp
    rw [ec, modN_cast, e]
    exact k_ H _ (Sm.refl H) rfl
  have hd0 : (d : Int) ≠ 0 := by omega
  cases o with
  | none =>
    have hk : v = .non := hk
    subst hk
    exact ⟨_, rfl, _, rfl, iteT ⟨_, rfl, _, _, rfl, rfl, _, rfl, _, _, rfl, rfl, hd0, endC_of hc (fin 0 rfl)⟩⟩
  | some s =>
    have hk : v = .int (s : Nat) := hk
    subst hk
    exact ⟨_, rfl, _, rfl, iteF ⟨_, rfl, _, rfl, _, _, rfl, rfl, _, rfl, _, _, rfl, rfl, hd0, endC_of hc (fin s rfl)⟩⟩
def args1 (a : Str) (p : Pos) : Arguments := { posonlyargs := [], args := [{ arg := a, annotation := none, pos := p }], vararg := none, kwonlyargs := [], kw_defaults := [], kwarg := none, defaults := [] }
def args2 (a b : Str) (p q : Pos) : Arguments := { posonlyargs := [], args := [{ arg := a, annotation := none, pos := p }, { arg := b, annotation := none, pos := q }], vararg := none, kwonlyargs := [], kw_defaults := [], kwarg := none, defaults := [] }
def scL (names : List (Str × NameKind)) : Scope := { kind := .function, names := names, isGenerator := false, isCoroutine := false }
/-- lambda state: state == rest -/
theorem run_eq_mark {f : Addr} {F : CF} {r : Nat} {U : Nat → Prop} {cs : Cells} {p1 p2 p3 p4 : Pos} (I : Inn F (args1 "state" p1) (.expr (.Compare (.Name "state" p2) [.Eq] [.Name "rest" p3] p4)) (scL [("state", .local), ("rest", .free)])) (C : CellsC F ["rest"] [some (.int r)] cs) (all : ∀ c o, cs.lookup c = some o → ∃ y, F.cl.lookup y = some c) :
    Runs P w K mg base 2 f F cs (spMark kN kB U fun s => decide (s = r)) := by
  obtain ⟨nm, q, pa, bo, sc, cl, c⟩ := F
  obtain ⟨e1, e2, e3⟩ := I
  simp only at e1 e2 e3
  subst e1 e2 e3
  refine runs_expr (N := ["state", "rest"]) (ps := ["state"]) (nscope_by (sc := scL [("state", .local), ("rest", .free)]) (by decide +kernel)) rfl (fun _ _ _ us hl => match us, hl with | [_], _ => rfl) C all (fun vs H Q E ⟨v, s, e, _⟩ => by rw [e]; rfl) fun A outer s H vs Q E hr hf hc ⟨v, s, e, hk, hU, k_⟩ => ?_
  subst e
  refine ⟨_, (pe_cmpR op_eq (pv 0) (pv 1) (nomark _)), ?_⟩
  have hk : v = .int (s : Nat) := hk
  subst hk
  refine ⟨_, rfl, _, rfl, rfl, ?_⟩
  have e : decide ((V.int (s : Nat)) = V.int (r : Nat)) = decide (s = r) := by
    by_cases h : s = r
    · rw [h, decide_eq_true rfl, decide_eq_true rfl]
    · rw [decide_eq_false h, decide_eq_false fun z => h (by injection z with z; omega)]
  rw [e]
  exact endC_of hc (k_ H _ (Sm.refl H) rfl)
/-- lambda state: state -/
theorem run_id_mark {f : Addr} {F : CF} {U : Bool → Prop} {cs : Cells} {p1 p2 : Pos} (I : Inn F (args1 "state" p1) (.expr (.Name "state" p2)) (scL [("state", .local)])) (C : CellsC F [] [] cs) (all : ∀ c o, cs.lookup c = some o → ∃ y, F.cl.lookup y = some c) :
    Runs P w K mg base 2 f F cs (spMark kB kB U fun s => s) := by
  obtain ⟨nm, q, pa, bo, sc, cl, c⟩ := F
  obtain ⟨e1, e2, e3⟩ := I
  simp only at e1 e2 e3
  subst e1 e2 e3
  refine runs_expr (N := ["state"]) (ps := ["state"]) (nscope_by (sc := scL [("state", .local)]) (by decide +kernel)) rfl (fun _ _ _ us hl => match us, hl with | [_], _ => rfl) C all (fun vs H Q E ⟨v, s, e, _⟩ => by rw [e]; rfl) fun A outer s H vs Q E hr hf hc ⟨v, s, e, hk, hU, k_⟩ => ?_
  subst e
  exact ⟨_, pv 0, _, rfl, endC_of hc (k_ H _ (Sm.refl H) hk)⟩
theorem dec_int (a b : Nat) : decide ((V.int (a : Nat)) = V.int (b : Nat)) = decide (a = b) := by
  by_cases h : a = b
  · rw [h, decide_eq_true rfl, decide_eq_true rfl]
  · rw [decide_eq_false h, decide_eq_false fun z => h (by injection z with z; omega)]
/-- lambda state, met: met == figure -/
theorem run_met {f : Addr} {F : CF} {b g : Nat} {U : Bool → Prop} {cs : Cells} {p1 p2 p3 p4 p5 : Pos} (I : Inn F (args2 "state" "met" p1 p2) (.expr (.Compare (.Name "met" p3) [.Eq] [.Name "figure" p4] p5)) (scL [("state", .local), ("met", .local), ("figure", .free)])) (C : CellsC F ["figure"] [some (.int g)] cs) (all : ∀ c o, cs.lookup c = some o → ∃ y, F.cl.lookup y = some c) :
    Runs P w K mg base 2 f F cs (spStep kB b U fun _ f => decide (f = g)) := by
  obtain ⟨nm, q, pa, bo, sc, cl, c⟩ := F
  obtain ⟨e1, e2, e3⟩ := I
  simp only at e1 e2 e3
  subst e1 e2 e3
  refine runs_expr (N := ["state", "met", "figure"]) (ps := ["state", "met"]) (nscope_by (sc := scL [("state", .local), ("met", .local), ("figure", .free)]) (by decide +kernel)) rfl (fun _ _ _ us hl => match us, hl with | [_, _], _ => rfl) C all (fun vs H Q E ⟨v, f, o, e, _⟩ => by rw [e]; rfl) fun A outer s H vs Q E hr hf hc ⟨v, fg, o, e, hf1, hk, hU, hpos, k_⟩ => ?_
  subst e
  refine ⟨_, (pe_cmpR op_eq (pv 1) (pv 2) (nomark _)), ?_⟩
  refine ⟨_, rfl, _, rfl, rfl, ?_⟩
  rw [dec_int]
  exact endC_of hc (k_ H _ (Sm.refl H) rfl)
/-- lambda state, met: state is True or met == figure -/
theorem run_borne {f : Addr} {F : CF} {b g : Nat} {U : Bool → Prop} {cs : Cells} {p1 p2 p3 p4 p5 p6 p7 p8 p9 : Pos} {n : Nat} (I : Inn F (args2 "state" "met" p1 p2) (.expr (.BoolOp .Or [.Compare (.Name "state" p3) [.Is] [.Constant (.bool true) n p4] p5, .Compare (.Name "met" p6) [.Eq] [.Name "figure" p7] p8] p9)) (scL [("state", .local), ("met", .local), ("figure", .free)])) (C : CellsC F ["figure"] [some (.int g)] cs) (all : ∀ c o, cs.lookup c = some o → ∃ y, F.cl.lookup y = some c) :
    Runs P w K mg base 2 f F cs (spStep kB b U fun o f => o.getD false || decide (f = g)) := by
  obtain ⟨nm, q, pa, bo, sc, cl, c⟩ := F
  obtain ⟨e1, e2, e3⟩ := I
  simp only at e1 e2 e3
  subst e1 e2 e3
  refine runs_expr (N := ["state", "met", "figure"]) (ps := ["state", "met"]) (nscope_by (sc := scL [("state", .local), ("met", .local), ("figure", .free)]) (by decide +kernel)) rfl (fun _ _ _ us hl => match us, hl with | [_, _], _ => rfl) C all (fun vs H Q E ⟨v, f, o, e, _⟩ => by rw [e]; rfl) fun A outer s H vs Q E hr hf hc ⟨v, fg, o, e, hf1, hk, hU, hpos, k_⟩ => ?_
  subst e
  refine ⟨_, (pe_or (pe_cmpR op_isTr (pv 0) pe_bl (nomark _)) (pe_one (pe_cmpR op_eq (pv 1) (pv 2) (nomark _)))), ?_⟩
  cases o with
  | none =>
    have hk : v = .non := hk
    subst hk
    refine ⟨_, rfl, true, rfl, .inl rfl, _, rfl, iteF ⟨_, rfl, _, rfl, rfl, ?_⟩⟩
    rw [dec_int]
    exact endC_of hc (k_ H _ (Sm.refl H) rfl)
  | some s =>
    have hk : v = .bl s := hk
    subst hk
    cases s with
    | true => exact ⟨_, rfl, true, rfl, .inr ⟨_, rfl⟩, _, rfl, iteT (endC_of hc (k_ H _ (Sm.refl H) rfl))⟩
    | false =>
      refine ⟨_, rfl, true, rfl, .inr ⟨_, rfl⟩, _, rfl, iteF ⟨_, rfl, _, rfl, rfl, ?_⟩⟩
      rw [dec_int]
      exact endC_of hc (k_ H _ (Sm.refl H) rfl)
/-- lambda state, met: True -/
theorem run_true {f : Addr} {F : CF} {b : Nat} {U : Bool → Prop} {cs : Cells} {p1 p2 p3 : Pos} {n : Nat} (I : Inn F (args2 "state" "met" p1 p2) (.expr (.Constant (.bool true) n p3)) (scL [("state", .local), ("met", .local)])) (C : CellsC F [] [] cs) (all : ∀ c o, cs.lookup c = some o → ∃ y, F.cl.lookup y = some c) :
    Runs P w K mg base 2 f F cs (spStep kB b U fun _ _ => true) := by
  obtain ⟨nm, q, pa, bo, sc, cl, c⟩ := F
  obtain ⟨e1, e2, e3⟩ := I
  simp only at e1 e2 e3
  subst e1 e2 e3
  refine runs_expr (N := ["state", "met"]) (ps := ["state", "met"]) (nscope_by (sc := scL [("state", .local), ("met", .local)]) (by decide +kernel)) rfl (fun _ _ _ us hl => match us, hl with | [_, _], _ => rfl) C all (fun vs H Q E ⟨v, f, o, e, _⟩ => by rw [e]; rfl) fun A outer s H vs Q E hr hf hc ⟨v, fg, o, e, hf1, hk, hU, hpos, k_⟩ => ?_
  subst e
  exact ⟨_, pe_bl, endC_of hc (k_ H _ (Sm.refl H) rfl)⟩
theorem stOf_rest {b d : Nat} (hb : 2 ≤ b) : ∀ n, 0 < n → stOf b (fun o f => (o.getD 0 * b + f) % d) n = some (n % d) := by
  intro n
  induction n using Nat.strongRecOn with
  | ind n ih =>
    intro hn
    obtain ⟨e, h1, h2, h3⟩ := split_num hb hn
    have ihq := ih (n / b) h3
    generalize n / b = q at *
    generalize n % b = f at *
    rw [e, stOf_snoc b _ hb h1 h2]
    by_cases h : 0 < q
    · rw [ihq h]
      show some (((q % d) * b + f) % d) = _
      rw [Nat.add_mod, Nat.mod_mul_mod, ← Nat.add_mod]
    · have h0 : q = 0 := by omega
      subst h0
      show some ((0 * b + f) % d) = _
      rfl
theorem stOf_sum {b d : Nat} (hb : 2 ≤ b) : ∀ n, 0 < n → stOf b (fun o f => (o.getD 0 + f) % d) n = some ((figs b n).sum % d) := by
  intro n
  induction n using Nat.strongRecOn with
  | ind n ih =>
    intro hn
    obtain ⟨e, h1, h2, h3⟩ := split_num hb hn
    have ihq := ih (n / b) h3
    generalize n / b = q at *
    generalize n % b = f at *
    rw [e, stOf_snoc b _ hb h1 h2, figs_snoc hb h1 h2]
    by_cases h : 0 < q
    · rw [ihq h]
      show some (((figs b q).sum % d + f) % d) = _
      rw [List.sum_append]
      simp
    · have h0 : q = 0 := by omega
      subst h0
      show some ((0 + f) % d) = _
      rw [figs_zero]
      simp
theorem stOf_borne {b g : Nat} (hb : 2 ≤ b) : ∀ n, 0 < n → stOf b (fun o f => o.getD false || decide (f = g)) n = some (decide (g ∈ figs b n)) := by
  intro n
  induction n using Nat.strongRecOn with
  | ind n ih =>
    intro hn
    obtain ⟨e, h1, h2, h3⟩ := split_num hb hn
    have ihq := ih (n / b) h3
    generalize n / b = q at *
    generalize n % b = f at *
    rw [e, stOf_snoc b _ hb h1 h2, figs_snoc hb h1 h2]
    have sw : decide (f = g) = decide (g = f) := by
      by_cases z : f = g
      · rw [z]
      · rw [decide_eq_false z, decide_eq_false fun y => z y.symm]
    by_cases h : 0 < q
    · rw [ihq h]
      show some (decide (g ∈ figs b q) || decide (f = g)) = _
      rw [sw]
      simp
    · have h0 : q = 0 := by omega
      subst h0
      show some (false || decide (f = g)) = _
      rw [sw, figs_zero]
      simp
theorem stOf_met {b g : Nat} (hb : 2 ≤ b) : ∀ n, 0 < n → stOf b (fun (_ : Option Bool) f => decide (f = g)) n = some (decide (n % b = g)) := by
  intro n hn
  obtain ⟨e, h1, h2, h3⟩ := split_num hb hn
  have e2 : stOf b (fun (_ : Option Bool) f => decide (f = g)) (n / b * b + n % b) = some (decide (n % b = g)) := by
    rw [stOf_snoc b _ hb h1 h2]
  rw [← e] at e2
  exact e2
theorem stOf_true {b : Nat} (hb : 2 ≤ b) : ∀ n, 0 < n → stOf b (fun (_ : Option Bool) _ => true) n = some true := by
  intro n hn
  obtain ⟨e, h1, h2, h3⟩ := split_num hb hn
  rw [e, stOf_snoc b _ hb h1 h2]
theorem GridAt.imm {C : Addr} {H H' : Hp} (i : ∀ a o, H a = some o → Sol o → H' a = some o) {a : Addr} {b : Nat} {g : Rows} {ms : List V} (h : GridAt C H a b g ms) : GridAt C H' a b g ms := by
  obtain ⟨dx, pg, pm, h1, ⟨as, r1, r2, r3⟩, h3⟩ := h
  exact ⟨dx, pg, pm, i _ _ h1 True.intro, ⟨as, i _ _ r1 True.intro, r2, fun j r hr => let ⟨q, x, y⟩ := r3 j r hr; ⟨q, x, i _ _ y True.intro⟩⟩, i _ _ h3 True.intro⟩
/-- a grid that was made with the cells tracked becomes a Kind -/
theorem kind_end {CG C : Addr} {TT' : List NTab} {H H2 : Hp} {cs : Cells} {b mm : Nat} {F : Nat → Bool} {Q : VK} (d02 : Kx H H2) (hT : TabsN TT' H2) (hun : ∀ c o, cs.lookup c = some o → H2 c = none) (hb : 2 ≤ b) (hb2 : b ≤ 16) (hmm : mm ≤ 200)
    (k_ : ∀ p H', H p = none → Kx H H' → TabsN TT' H' → KindAt CG C H' p b F → Q (.ref p) H') :
    ∀ (p : Addr) (H' : Hp) (m' : Nat) (g' : Rows) (ms' : List V) (mk' : Nat → Bool), trkC cs H2 p = none → Sm (trkC cs H2) H' → Canon b m' g' mk' F → m' ≤ mm → GridAt CG H' p b g' ms' → MarksAre kB H' ms' mk' m' →
      (∀ c o, cs.lookup c = some o → H' c = some (CellX c o)) ∧ ∀ x dx, untC cs H' x = none → untC cs H' dx = none → dx ≠ x → spKindInit C [.ref x, .ref p] (upd (upd (untC cs H') dx (.own x)) x (.ins C dx [])) (fun v H2 => v = .non ∧ Q (.ref x) H2) E0 := by
  intro p H' m' g' ms' mk' hp e hc hm hg hms
  refine ⟨fun c o h => e.at_ c _ (trk_in h), fun x dx hx hdx hne => ?_⟩
  have e23 : Sm H2 (untC cs H') := ⟨fun a o h => by
    cases q : cs.lookup a with
    | some u => rw [hun a u q] at h; cases h
    | none => rw [unt_out q]; exact e.at_ a o (by rw [trk_out q]; exact h)⟩
  have e34 : Sm (untC cs H') (upd (upd (upd (untC cs H') dx (.own x)) x (.ins C dx [])) x (.ins C dx [("grid", .ref p)])) := ((Sm.new hdx).mut hx).mut hx
  have e24 := e23.trans e34
  refine ⟨x, dx, .ref p, rfl, upd_same, rfl, k_ x _ (d02.dom _ (e23.free hx)) (d02.trans e24.kx) (hT.ext e24.at_) ⟨dx, p, m', g', ms', mk', upd_same, hg.imm fun a o h s => e34.at_ a o ?_, hc, ⟨hms.len, fun s a c => hms.at_ s a c⟩, by omega, hb, hb2⟩⟩
  cases q : cs.lookup a with
  | some u =>
    rw [e.at_ a _ (trk_in q)] at h
    cases h
    exact s.elim
  | none => rw [unt_out q]; exact h
abbrev N_rest : List Str := ["base", "number", "rest", "step"]
theorem sc_rest : FnScope N_rest ["base", "number", "rest"] (defScope s_rest) := ⟨rfl, rfl, rfl, by decide +kernel, rfl, by decide +kernel, by decide +kernel⟩
theorem hb_rest : HB s_rest "rest" "rest" ["base", "number", "rest"] := fun _ _ _ _ _ _ us hl => match us, hl with | [_, _, _], _ => rfl

/-- rest(base, number, rest), of good ones -/
def spRest (CG C : Addr) (TT' : List NTab) : Sp := fun vs H Q _ => ∃ b d r : Nat, vs = [.int b, .int d, .int r] ∧ 2 ≤ b ∧ b ≤ 16 ∧ 2 ≤ d ∧ d ≤ 12 ∧ r < d ∧ TabsN TT' H ∧
  ∀ p H', H p = none → Kx H H' → TabsN TT' H' → KindAt CG C H' p b (fun n => decide (n % d = r)) → Q (.ref p) H'
theorem g_rest {f Pt C CG : Addr} {TT' : List NTab} (T : Bt mg) (I : Its mg) (c : KiC K mg CG C) (D : DfT K base mg "rest" "rest" s_rest f Pt) (hTm : (Pt, nmAll) ∈ TT') (hTu : ∀ p ∈ TT', p.1 = Pt → p.2 = nmAll) (m : mg "rest" = some (.ref f))
    (G1 : Fn P w K mg base CXN 2 "check_base" ["base"] spCheckBase) (G2 : Fn P w K mg base CXN 2 "check_divisor" ["number"] spCheckDivisor) (G3 : Fn P w K mg base CXN 2 "check_rest" ["rest_due", "number"] spCheckRest)
    (G4 : Fn P w K mg base CXN 4 "grid_of" ["figures", "step", "mark", "most"] (spGridOf kN kB CG P w K mg base 2)) (G5 : Mkr P w K mg base CXN 1 C "Kind" ["self", "grid"] (spKindInit C)) :
    Fn P w K mg base CXN 5 "rest" ["base", "number", "rest"] (spRest CG C TT') := by
  refine D.fn m sc_rest hb_rest (fun vs H Q E ⟨b, d, r, e, _⟩ => by rw [e]; rfl) fun cc A outer s H vs Q E TB hr ⟨b, d, r, e, hb, hb2, hd, hd2, hrd, hT, k_⟩ => ?_
  subst e
  obtain ⟨tms, hms⟩ := I.ms
  refine ⟨_, (pss_cons (ps_expr (pe_fn G1 (hr.mono (by decide)) (by rfl) pass0 (pa_cons (pv 0) pa_nil)))
    (pss_cons (ps_expr (pe_fn G2 (hr.mono (by decide)) (by rfl) pass0 (pa_cons (pv 1) pa_nil)))
    (pss_cons (ps_expr (pe_fn G3 (hr.mono (by decide)) (by rfl) pass0 (pa_cons (pv 2) (pa_cons (pv 1) pa_nil))))
    (pss_cons (ps_defC (i := 3) TB rfl hTm (nm_324_4) hTu (ndef_free (sc := defScope s_rest) (fr := []) (by decide +kernel)) rfl rfl rfl sc_rest.nd rfl (Or.inl rfl) (Or.inl rfl))
    (pss_one (ps_ret (pe_mkr G5 (hr.mono (by decide)) (by rfl) pass0 (pa_cons (pe_fnT G4 (fun _ => rfl) ⟨rfl, rfl⟩ hr (by rfl) (pa_cons (pv 0) (pa_cons (pv 3) (pa_cons (pe_lamC TB rfl hTm (nm_326_36) hTu rfl (ndef_free (sc := defScope s_rest) (fr := []) (by decide +kernel))) (pa_cons (pe_glob (v := .int 200) rfl hms ⟨_, rfl⟩) pa_nil))))) pa_nil)))))))), ?_⟩
  refine ⟨_, rfl, b, rfl, hb, hb2, _, rfl, d, rfl, hd, hd2, _, rfl, _, rfl, r, d, rfl, hrd, hT, fun fs c1 H1 e1 d1 hT1 hfs0 hfs hc1 => ?_⟩
  refine ⟨_, rfl, _, rfl, hT1, fun fm c2 H2 e2 d2 hT2 hfm0 hfm hc2 => ?_⟩
  intro ob O hun
  have hnd1 : ndefB (defScope s_rest) (defScope i_rest_step) ["base", "number"] = true := by decide +kernel
  have hnd2 : ndefB (defScope s_rest) (scL [("state", .local), ("rest", .free)]) ["rest"] = true := by decide +kernel
  refine ⟨b, 200, fs, fm, fun x => x < d, List.range d, fun o f => (o.getD 0 * b + f) % d, fun s => decide (s = r), fun n => decide (n % d = r), rfl, ?_, ?_, hb, hb2, fun x h => List.mem_range.mpr h, by rw [List.length_range]; omega, by rw [List.length_range]; omega, fun o f h1 h2 h3 => Nat.mod_lt _ (by omega), ?_, ?_⟩
  · refine clo_own (fr := ["base", "number"]) (js := [0, 1]) O hun (e2 _ _ hfs cfo_ne) (e2 _ _ hc1 codeO_ne) rfl hnd1 rfl fun cs CC all => ?_
    exact run_rest_step hb2 hd hd2 ⟨rfl, rfl, rfl⟩ CC all
  · refine clo_own (fr := ["rest"]) (js := [2]) O hun hfm hc2 rfl hnd2 rfl fun cs CC all => ?_
    exact run_eq_mark ⟨rfl, rfl, rfl⟩ CC all
  · intro n hn x hx
    rw [stOf_rest hb n hn] at hx
    rw [← Option.some.inj hx]
  · exact kind_end (Kx.mk (e1.trans e2) fun a h => d1 a (d2 a h)) hT2 hun hb hb2 (by rw [List.length_range]; omega) k_
abbrev N_figure_sum : List Str := ["base", "number", "rest", "step"]
theorem sc_figure_sum : FnScope N_figure_sum ["base", "number", "rest"] (defScope s_figure_sum) := ⟨rfl, rfl, rfl, by decide +kernel, rfl, by decide +kernel, by decide +kernel⟩
theorem hb_figure_sum : HB s_figure_sum "figure_sum" "figure_sum" ["base", "number", "rest"] := fun _ _ _ _ _ _ us hl => match us, hl with | [_, _, _], _ => rfl

/-- figure_sum(base, number, rest), of good ones -/
def spSum (CG C : Addr) (TT' : List NTab) : Sp := fun vs H Q _ => ∃ b d r : Nat, vs = [.int b, .int d, .int r] ∧ 2 ≤ b ∧ b ≤ 16 ∧ 2 ≤ d ∧ d ≤ 12 ∧ r < d ∧ TabsN TT' H ∧
  ∀ p H', H p = none → Kx H H' → TabsN TT' H' → KindAt CG C H' p b (fun n => decide ((figs b n).sum % d = r)) → Q (.ref p) H'
theorem g_figure_sum {f Pt C CG : Addr} {TT' : List NTab} (T : Bt mg) (I : Its mg) (c : KiC K mg CG C) (D : DfT K base mg "figure_sum" "figure_sum" s_figure_sum f Pt) (hTm : (Pt, nmAll) ∈ TT') (hTu : ∀ p ∈ TT', p.1 = Pt → p.2 = nmAll) (m : mg "figure_sum" = some (.ref f))
    (G1 : Fn P w K mg base CXN 2 "check_base" ["base"] spCheckBase) (G2 : Fn P w K mg base CXN 2 "check_divisor" ["number"] spCheckDivisor) (G3 : Fn P w K mg base CXN 2 "check_rest" ["rest_due", "number"] spCheckRest)
    (G4 : Fn P w K mg base CXN 4 "grid_of" ["figures", "step", "mark", "most"] (spGridOf kN kB CG P w K mg base 2)) (G5 : Mkr P w K mg base CXN 1 C "Kind" ["self", "grid"] (spKindInit C)) :
    Fn P w K mg base CXN 5 "figure_sum" ["base", "number", "rest"] (spSum CG C TT') := by
  refine D.fn m sc_figure_sum hb_figure_sum (fun vs H Q E ⟨b, d, r, e, _⟩ => by rw [e]; rfl) fun cc A outer s H vs Q E TB hr ⟨b, d, r, e, hb, hb2, hd, hd2, hrd, hT, k_⟩ => ?_
  subst e
  obtain ⟨tms, hms⟩ := I.ms
  refine ⟨_, (pss_cons (ps_expr (pe_fn G1 (hr.mono (by decide)) (by rfl) pass0 (pa_cons (pv 0) pa_nil)))
    (pss_cons (ps_expr (pe_fn G2 (hr.mono (by decide)) (by rfl) pass0 (pa_cons (pv 1) pa_nil)))
    (pss_cons (ps_expr (pe_fn G3 (hr.mono (by decide)) (by rfl) pass0 (pa_cons (pv 2) (pa_cons (pv 1) pa_nil))))
    (pss_cons (ps_defC (i := 3) TB rfl hTm (nm_332_4) hTu (ndef_free (sc := defScope s_figure_sum) (fr := []) (by decide +kernel)) rfl rfl rfl sc_figure_sum.nd rfl (Or.inl rfl) (Or.inl rfl))
    (pss_one (ps_ret (pe_mkr G5 (hr.mono (by decide)) (by rfl) pass0 (pa_cons (pe_fnT G4 (fun _ => rfl) ⟨rfl, rfl⟩ hr (by rfl) (pa_cons (pv 0) (pa_cons (pv 3) (pa_cons (pe_lamC TB rfl hTm (nm_334_36) hTu rfl (ndef_free (sc := defScope s_figure_sum) (fr := []) (by decide +kernel))) (pa_cons (pe_glob (v := .int 200) rfl hms ⟨_, rfl⟩) pa_nil))))) pa_nil)))))))), ?_⟩
  refine ⟨_, rfl, b, rfl, hb, hb2, _, rfl, d, rfl, hd, hd2, _, rfl, _, rfl, r, d, rfl, hrd, hT, fun fs c1 H1 e1 d1 hT1 hfs0 hfs hc1 => ?_⟩
  refine ⟨_, rfl, _, rfl, hT1, fun fm c2 H2 e2 d2 hT2 hfm0 hfm hc2 => ?_⟩
  intro ob O hun
  have hnd1 : ndefB (defScope s_figure_sum) (defScope i_figure_sum_step) ["number"] = true := by decide +kernel
  have hnd2 : ndefB (defScope s_figure_sum) (scL [("state", .local), ("rest", .free)]) ["rest"] = true := by decide +kernel
  refine ⟨b, 200, fs, fm, fun x => x < d, List.range d, fun o f => (o.getD 0 + f) % d, fun s => decide (s = r), fun n => decide ((figs b n).sum % d = r), rfl, ?_, ?_, hb, hb2, fun x h => List.mem_range.mpr h, by rw [List.length_range]; omega, by rw [List.length_range]; omega, fun o f h1 h2 h3 => Nat.mod_lt _ (by omega), ?_, ?_⟩
  · refine clo_own (fr := ["number"]) (js := [1]) O hun (e2 _ _ hfs cfo_ne) (e2 _ _ hc1 codeO_ne) rfl hnd1 rfl fun cs CC all => ?_
    exact run_figure_sum_step hd ⟨rfl, rfl, rfl⟩ CC all
  · refine clo_own (fr := ["rest"]) (js := [2]) O hun hfm hc2 rfl hnd2 rfl fun cs CC all => ?_
    exact run_eq_mark ⟨rfl, rfl, rfl⟩ CC all
  · intro n hn x hx
    rw [stOf_sum hb n hn] at hx
    rw [← Option.some.inj hx]
  · exact kind_end (Kx.mk (e1.trans e2) fun a h => d1 a (d2 a h)) hT2 hun hb hb2 (by rw [List.length_range]; omega) k_
theorem mem_bools (x : Bool) : x ∈ [true, false] := by cases x <;> simp
abbrev N_bears : List Str := ["base", "figure"]
theorem sc_bears : FnScope N_bears ["base", "figure"] (defScope s_bears) := ⟨rfl, rfl, rfl, by decide +kernel, rfl, by decide +kernel, by decide +kernel⟩
theorem hb_bears : HB s_bears "bears" "bears" ["base", "figure"] := fun _ _ _ _ _ _ us hl => match us, hl with | [_, _], _ => rfl

/-- bears(base, figure), ends(base, figure) -/
def spFig (CG C : Addr) (TT' : List NTab) (F : Nat → Nat → Nat → Bool) : Sp := fun vs H Q _ => ∃ b g : Nat, vs = [.int b, .int g] ∧ 2 ≤ b ∧ b ≤ 16 ∧ g < b ∧ TabsN TT' H ∧
  ∀ p H', H p = none → Kx H H' → TabsN TT' H' → KindAt CG C H' p b (F b g) → Q (.ref p) H'
theorem g_bears {f Pt C CG : Addr} {TT' : List NTab} (T : Bt mg) (I : Its mg) (c : KiC K mg CG C) (D : DfT K base mg "bears" "bears" s_bears f Pt) (hTm : (Pt, nmAll) ∈ TT') (hTu : ∀ p ∈ TT', p.1 = Pt → p.2 = nmAll) (m : mg "bears" = some (.ref f))
    (G1 : Fn P w K mg base CXN 2 "check_base" ["base"] spCheckBase) (G2 : Fn P w K mg base CXN 2 "check_figure" ["figure", "base"] spCheckRest)
    (G4 : Fn P w K mg base CXN 4 "grid_of" ["figures", "step", "mark", "most"] (spGridOf kB kB CG P w K mg base 2)) (G5 : Mkr P w K mg base CXN 1 C "Kind" ["self", "grid"] (spKindInit C)) :
    Fn P w K mg base CXN 5 "bears" ["base", "figure"] (spFig CG C TT' fun b g n => decide (g ∈ figs b n)) := by
  refine D.fn m sc_bears hb_bears (fun vs H Q E ⟨b, g, e, _⟩ => by rw [e]; rfl) fun cc A outer s H vs Q E TB hr ⟨b, g, e, hb, hb2, hg, hT, k_⟩ => ?_
  subst e
  obtain ⟨tms, hms⟩ := I.ms
  refine ⟨_, (pss_cons (ps_expr (pe_fn G1 (hr.mono (by decide)) (by rfl) pass0 (pa_cons (pv 0) pa_nil)))
    (pss_cons (ps_expr (pe_fn G2 (hr.mono (by decide)) (by rfl) pass0 (pa_cons (pv 1) (pa_cons (pv 0) pa_nil))))
    (pss_one (ps_ret (pe_mkr G5 (hr.mono (by decide)) (by rfl) pass0 (pa_cons (pe_fnT G4 (fun _ => rfl) ⟨rfl, rfl⟩ hr (by rfl) (pa_cons (pv 0) (pa_cons (pe_lamC TB rfl hTm (nm_338_30) hTu rfl (ndef_free (sc := defScope s_bears) (fr := []) (by decide +kernel))) (pa_cons (pe_lamC TB rfl hTm (nm_338_81) hTu rfl (ndef_free (sc := defScope s_bears) (fr := []) (by decide +kernel))) (pa_cons (pe_glob (v := .int 200) rfl hms ⟨_, rfl⟩) pa_nil))))) pa_nil)))))), ?_⟩
  refine ⟨_, rfl, b, rfl, hb, hb2, _, rfl, _, rfl, g, b, rfl, hg, ?_⟩
  refine ⟨_, rfl, hT, fun fs c1 H1 e1 d1 hT1 hfs0 hfs hc1 => ⟨hT1, fun fm c2 H2 e2 d2 hT2 hfm0 hfm hc2 => ?_⟩⟩
  intro ob O hun
  have hnd1 : ndefB (defScope s_bears) (scL [("state", .local), ("met", .local), ("figure", .free)]) ["figure"] = true := by decide +kernel
  have hnd2 : ndefB (defScope s_bears) (scL [("state", .local)]) [] = true := by decide +kernel
  refine ⟨b, 200, fs, fm, fun _ => True, [true, false], fun o f => o.getD false || decide (f = g), fun s => s, fun n => decide (g ∈ figs b n), rfl, ?_, ?_, hb, hb2, fun x _ => mem_bools x, by decide, by decide, fun o f h1 h2 h3 => True.intro, ?_, ?_⟩
  · refine clo_own (fr := ["figure"]) (js := [1]) O hun (e2 _ _ hfs cfo_ne) (e2 _ _ hc1 codeO_ne) rfl hnd1 rfl fun cs CC all => ?_
    exact run_borne ⟨rfl, rfl, rfl⟩ CC all
  · refine clo_own (fr := []) (js := []) O hun hfm hc2 rfl hnd2 rfl fun cs CC all => ?_
    exact run_id_mark ⟨rfl, rfl, rfl⟩ CC all
  · intro n hn x hx
    rw [stOf_borne hb n hn] at hx
    rw [← Option.some.inj hx]
  · exact kind_end (Kx.mk (e1.trans e2) fun a h => d1 a (d2 a h)) hT2 hun hb hb2 (by decide) k_
abbrev N_ends : List Str := ["base", "figure"]
theorem sc_ends : FnScope N_ends ["base", "figure"] (defScope s_ends) := ⟨rfl, rfl, rfl, by decide +kernel, rfl, by decide +kernel, by decide +kernel⟩
theorem hb_ends : HB s_ends "ends" "ends" ["base", "figure"] := fun _ _ _ _ _ _ us hl => match us, hl with | [_, _], _ => rfl

theorem g_ends {f Pt C CG : Addr} {TT' : List NTab} (T : Bt mg) (I : Its mg) (c : KiC K mg CG C) (D : DfT K base mg "ends" "ends" s_ends f Pt) (hTm : (Pt, nmAll) ∈ TT') (hTu : ∀ p ∈ TT', p.1 = Pt → p.2 = nmAll) (m : mg "ends" = some (.ref f))
    (G1 : Fn P w K mg base CXN 2 "check_base" ["base"] spCheckBase) (G2 : Fn P w K mg base CXN 2 "check_figure" ["figure", "base"] spCheckRest)
    (G4 : Fn P w K mg base CXN 4 "grid_of" ["figures", "step", "mark", "most"] (spGridOf kB kB CG P w K mg base 2)) (G5 : Mkr P w K mg base CXN 1 C "Kind" ["self", "grid"] (spKindInit C)) :
    Fn P w K mg base CXN 5 "ends" ["base", "figure"] (spFig CG C TT' fun b g n => decide (n % b = g)) := by
  refine D.fn m sc_ends hb_ends (fun vs H Q E ⟨b, g, e, _⟩ => by rw [e]; rfl) fun cc A outer s H vs Q E TB hr ⟨b, g, e, hb, hb2, hg, hT, k_⟩ => ?_
  subst e
  obtain ⟨tms, hms⟩ := I.ms
  refine ⟨_, (pss_cons (ps_expr (pe_fn G1 (hr.mono (by decide)) (by rfl) pass0 (pa_cons (pv 0) pa_nil)))
    (pss_cons (ps_expr (pe_fn G2 (hr.mono (by decide)) (by rfl) pass0 (pa_cons (pv 1) (pa_cons (pv 0) pa_nil))))
    (pss_one (ps_ret (pe_mkr G5 (hr.mono (by decide)) (by rfl) pass0 (pa_cons (pe_fnT G4 (fun _ => rfl) ⟨rfl, rfl⟩ hr (by rfl) (pa_cons (pv 0) (pa_cons (pe_lamC TB rfl hTm (nm_342_30) hTu rfl (ndef_free (sc := defScope s_ends) (fr := []) (by decide +kernel))) (pa_cons (pe_lamC TB rfl hTm (nm_342_64) hTu rfl (ndef_free (sc := defScope s_ends) (fr := []) (by decide +kernel))) (pa_cons (pe_glob (v := .int 200) rfl hms ⟨_, rfl⟩) pa_nil))))) pa_nil)))))), ?_⟩
  refine ⟨_, rfl, b, rfl, hb, hb2, _, rfl, _, rfl, g, b, rfl, hg, ?_⟩
  refine ⟨_, rfl, hT, fun fs c1 H1 e1 d1 hT1 hfs0 hfs hc1 => ⟨hT1, fun fm c2 H2 e2 d2 hT2 hfm0 hfm hc2 => ?_⟩⟩
  intro ob O hun
  have hnd1 : ndefB (defScope s_ends) (scL [("state", .local), ("met", .local), ("figure", .free)]) ["figure"] = true := by decide +kernel
  have hnd2 : ndefB (defScope s_ends) (scL [("state", .local)]) [] = true := by decide +kernel
  refine ⟨b, 200, fs, fm, fun _ => True, [true, false], fun _ f => decide (f = g), fun s => s, fun n => decide (n % b = g), rfl, ?_, ?_, hb, hb2, fun x _ => mem_bools x, by decide, by decide, fun o f h1 h2 h3 => True.intro, ?_, ?_⟩
  · refine clo_own (fr := ["figure"]) (js := [1]) O hun (e2 _ _ hfs cfo_ne) (e2 _ _ hc1 codeO_ne) rfl hnd1 rfl fun cs CC all => ?_
    exact run_met ⟨rfl, rfl, rfl⟩ CC all
  · refine clo_own (fr := []) (js := []) O hun hfm hc2 rfl hnd2 rfl fun cs CC all => ?_
    exact run_id_mark ⟨rfl, rfl, rfl⟩ CC all
  · intro n hn x hx
    rw [stOf_met hb n hn] at hx
    rw [← Option.some.inj hx]
  · exact kind_end (Kx.mk (e1.trans e2) fun a h => d1 a (d2 a h)) hT2 hun hb hb2 (by decide) k_
abbrev N_every : List Str := ["base"]
theorem sc_every : FnScope N_every ["base"] (defScope s_every) := ⟨rfl, rfl, rfl, by decide +kernel, rfl, by decide +kernel, by decide +kernel⟩
theorem hb_every : HB s_every "every" "every" ["base"] := fun _ _ _ _ _ _ us hl => match us, hl with | [_], _ => rfl

def spEvery (CG C : Addr) (TT' : List NTab) : Sp := fun vs H Q _ => ∃ b : Nat, vs = [.int b] ∧ 2 ≤ b ∧ b ≤ 16 ∧ TabsN TT' H ∧
  ∀ p H', H p = none → Kx H H' → TabsN TT' H' → KindAt CG C H' p b (fun _ => true) → Q (.ref p) H'
theorem g_every {f Pt C CG : Addr} {TT' : List NTab} (T : Bt mg) (I : Its mg) (c : KiC K mg CG C) (D : DfT K base mg "every" "every" s_every f Pt) (hTm : (Pt, nmAll) ∈ TT') (hTu : ∀ p ∈ TT', p.1 = Pt → p.2 = nmAll) (m : mg "every" = some (.ref f))
    (G1 : Fn P w K mg base CXN 2 "check_base" ["base"] spCheckBase)
    (G4 : Fn P w K mg base CXN 4 "grid_of" ["figures", "step", "mark", "most"] (spGridOf kB kB CG P w K mg base 2)) (G5 : Mkr P w K mg base CXN 1 C "Kind" ["self", "grid"] (spKindInit C)) :
    Fn P w K mg base CXN 5 "every" ["base"] (spEvery CG C TT') := by
  refine D.fn m sc_every hb_every (fun vs H Q E ⟨b, e, _⟩ => by rw [e]; rfl) fun cc A outer s H vs Q E TB hr ⟨b, e, hb, hb2, hT, k_⟩ => ?_
  subst e
  obtain ⟨tms, hms⟩ := I.ms
  refine ⟨_, (pss_cons (ps_expr (pe_fn G1 (hr.mono (by decide)) (by rfl) pass0 (pa_cons (pv 0) pa_nil)))
    (pss_one (ps_ret (pe_mkr G5 (hr.mono (by decide)) (by rfl) pass0 (pa_cons (pe_fnT G4 (fun _ => rfl) ⟨rfl, rfl⟩ hr (by rfl) (pa_cons (pv 0) (pa_cons (pe_lamC TB rfl hTm (nm_345_30) hTu rfl (ndef_free (sc := defScope s_every) (fr := []) (by decide +kernel))) (pa_cons (pe_lamC TB rfl hTm (nm_345_55) hTu rfl (ndef_free (sc := defScope s_every) (fr := []) (by decide +kernel))) (pa_cons (pe_glob (v := .int 200) rfl hms ⟨_, rfl⟩) pa_nil))))) pa_nil))))), ?_⟩
  refine ⟨_, rfl, b, rfl, hb, hb2, ?_⟩
  refine ⟨_, rfl, hT, fun fs c1 H1 e1 d1 hT1 hfs0 hfs hc1 => ⟨hT1, fun fm c2 H2 e2 d2 hT2 hfm0 hfm hc2 => ?_⟩⟩
  intro ob O hun
  have hnd1 : ndefB (defScope s_every) (scL [("state", .local), ("met", .local)]) [] = true := by decide +kernel
  have hnd2 : ndefB (defScope s_every) (scL [("state", .local)]) [] = true := by decide +kernel
  refine ⟨b, 200, fs, fm, fun _ => True, [true, false], fun _ _ => true, fun s => s, fun _ => true, rfl, ?_, ?_, hb, hb2, fun x _ => mem_bools x, by decide, by decide, fun o f h1 h2 h3 => True.intro, ?_, ?_⟩
  · refine clo_own (fr := []) (js := []) O hun (e2 _ _ hfs cfo_ne) (e2 _ _ hc1 codeO_ne) rfl hnd1 rfl fun cs CC all => ?_
    exact run_true ⟨rfl, rfl, rfl⟩ CC all
  · refine clo_own (fr := []) (js := []) O hun hfm hc2 rfl hnd2 rfl fun cs CC all => ?_
    exact run_id_mark ⟨rfl, rfl, rfl⟩ CC all
  · intro n hn x hx
    rw [stOf_true hb n hn] at hx
    rw [← Option.some.inj hx]
  · exact kind_end (Kx.mk (e1.trans e2) fun a h => d1 a (d2 a h)) hT2 hun hb hb2 (by decide) k_
abbrev N_multiple : List Str := ["base", "number"]
theorem sc_multiple : FnScope N_multiple ["base", "number"] (defScope s_multiple) := ⟨rfl, rfl, rfl, by decide +kernel, rfl, by decide +kernel, by decide +kernel⟩
theorem hb_multiple : HB s_multiple "multiple" "multiple" ["base", "number"] := fun _ _ _ _ _ _ us hl => match us, hl with | [_, _], _ => rfl

def spMultiple (CG C : Addr) (TT' : List NTab) : Sp := fun vs H Q _ => ∃ b d : Nat, vs = [.int b, .int d] ∧ 2 ≤ b ∧ b ≤ 16 ∧ 2 ≤ d ∧ d ≤ 12 ∧ TabsN TT' H ∧
  ∀ p H', H p = none → Kx H H' → TabsN TT' H' → KindAt CG C H' p b (fun n => decide (n % d = 0)) → Q (.ref p) H'
theorem g_multiple {f C CG : Addr} {TT' : List NTab} (D : Df K "multiple" "multiple" s_multiple f) (m : mg "multiple" = some (.ref f))
    (G1 : Fn P w K mg base CXN 2 "check_base" ["base"] spCheckBase) (G2 : Fn P w K mg base CXN 2 "check_divisor" ["number"] spCheckDivisor) (G3 : Fn P w K mg base CXN 5 "rest" ["base", "number", "rest"] (spRest CG C TT')) :
    Fn P w K mg base CXN 6 "multiple" ["base", "number"] (spMultiple CG C TT') := by
  refine D.fn m sc_multiple hb_multiple (fun vs H Q E ⟨b, d, e, _⟩ => by rw [e]; rfl) fun cdv A outer s H vs Q E hr ⟨b, d, e, hb, hb2, hd, hd2, hT, k_⟩ => ?_
  subst e
  refine ⟨_, (pss_cons (ps_expr (pe_fn G1 (hr.mono (by decide)) (by rfl) pass0 (pa_cons (pv 0) pa_nil)))
    (pss_cons (ps_expr (pe_fn G2 (hr.mono (by decide)) (by rfl) pass0 (pa_cons (pv 1) pa_nil)))
    (pss_one (ps_ret (pe_fn G3 hr (by rfl) pass0 (pa_cons (pv 0) (pa_cons (pv 1) (pa_cons pe_int pa_nil)))))))), ?_⟩
  exact ⟨_, rfl, b, rfl, hb, hb2, _, rfl, d, rfl, hd, hd2, _, rfl, _, rfl, b, d, 0, rfl, hb, hb2, hd, hd2, by omega, hT, k_⟩
end
end Bz
end
section
set_option Elab.async false
set_option linter.all false
set_option maxRecDepth 100000
set_option maxHeartbeats 4000000
namespace Bz
open PySem PySem.Spec PyProof.Rows L2 LamX NdefX
/-! ### the law's own functions -/
/-- the bag of what is drawn, with n draws left -/
def BagAt (H : Hp) (a : Addr) (n : Nat) : Prop := ∃ b0 b1 b2 : Nat, H a = some (.lst [.int b0, .int b1, .int b2]) ∧ b1 < 2 ^ 130 ∧ b2 + n ≤ 1000000 ∧ (b0 = 0 ∨ b2 = 0)
theorem BagAt.mono {H : Hp} {a : Addr} {n m : Nat} (h : BagAt H a n) (e : m ≤ n) : BagAt H a m := by
  obtain ⟨b0, b1, b2, h1, h2, h3, h4⟩ := h
  exact ⟨b0, b1, b2, h1, h2, by omega, h4⟩
theorem BagAt.nn {H : Hp} {a : Addr} {n : Nat} (h : BagAt H a n) : H a ≠ none := by
  obtain ⟨b0, b1, b2, h1, _⟩ := h
  rw [h1]; simp
theorem BagAt.sm {H H' : Hp} {a : Addr} {n : Nat} (h : BagAt H a n) (e : ∀ xs, H a = some (HO.lst xs) → H' a = some (HO.lst xs)) : BagAt H' a n := by
  obtain ⟨b0, b1, b2, h1, h2, h3⟩ := h
  exact ⟨b0, b1, b2, e _ h1, h2, h3⟩
/-- all but the bag stays -/
structure Kz (a : Addr) (H H' : Hp) : Prop where
  at_ : ∀ x o, x ≠ a → H x = some o → H' x = some o
  dom : ∀ x, H' x = none → H x = none
theorem Kz.refl (a : Addr) (H : Hp) : Kz a H H := ⟨fun _ _ _ h => h, fun _ h => h⟩
theorem Kz.trans {a : Addr} {H H1 H2 : Hp} (x : Kz a H H1) (y : Kz a H1 H2) : Kz a H H2 := ⟨fun b o n h => y.at_ b o n (x.at_ b o n h), fun b h => x.dom b (y.dom b h)⟩
theorem Sm.kz {a : Addr} {H H' : Hp} (e : Sm H H') : Kz a H H' := ⟨fun b o _ h => e.at_ b o h, fun _ h => e.free h⟩
theorem fmN (x d : Int) (hd : 0 < d) : ∃ v : Nat, x.fmod d = (v : Int) ∧ (v : Int) < d := by
  have h1 := Int.emod_nonneg x (show d ≠ 0 by omega)
  have h2 := Int.emod_lt_of_pos x hd
  refine ⟨(x % d).toNat, ?_, ?_⟩
  · rw [Int.fmod_eq_emod_of_nonneg _ (by omega), Int.toNat_of_nonneg h1]
  · rw [Int.toNat_of_nonneg h1]; exact h2
section
variable {P : Program} {w : World} {K : PySem.W.Frag} {mg : Str → Option Value} {base : Heap}
abbrev N_law_bag : List Str := ["script", "k", "cell"]
theorem sc_law_bag : FnScope N_law_bag ["script", "k"] (defScope s_law_bag) := ⟨rfl, rfl, rfl, by decide +kernel, rfl, by decide +kernel, by decide +kernel⟩
theorem hb_law_bag : HB s_law_bag "_law_bag" "_law_bag" ["script", "k"] := fun _ _ _ _ _ _ us hl => match us, hl with | [_, _], _ => rfl

def spBag (K : PySem.W.Frag) : Sp := fun vs H Q _ => ∃ (a : Addr) (ns : List Int) (k : Nat), vs = [.ref a, .int k] ∧ SqL K H a (ns.map V.int) ∧ k ≤ 63 ∧ ∀ p H', H p = none → Sm H H' → BagAt H' p 900000 → Q (.ref p) H'
theorem g_law_bag {f : Addr} (T : Bt mg) (D : Df K "_law_bag" "_law_bag" s_law_bag f) (m : mg "_law_bag" = some (.ref f)) : Fn P w K mg base CXN 1 "_law_bag" ["script", "k"] (spBag K) := by
  refine D.fn m sc_law_bag hb_law_bag (fun vs H Q E ⟨a, ns, k, e, _⟩ => by rw [e]; rfl) fun cdv A outer s H vs Q E hr ⟨a, ns, k, e, hs, hk, k_⟩ => ?_
  subst e
  refine ⟨_, (pss_cons (ps_set (i := 2) sc_law_bag.nd rfl (Or.inl rfl) pe_int)
    (pss_cons (ps_if (pt_cmpR (op_lt) (pv 1) (pe_callB (call_len_seqK (K := K) rfl) (by rfl) T.len PySem.boot_len (pa_cons (pv 0) pa_nil)) (nomark _)) (pss_one (ps_set (i := 2) sc_law_bag.nd rfl (Or.inl rfl) (pe_callB call_abs (by rfl) T.abs (by decide +kernel) (pa_cons (pe_callTy call_int1 (by rfl) T.int (by decide +kernel) (pa_cons (pe_ix (ix_listK (K := K) rfl) (pv 0) (pv 1) (fun _ _ => rfl)) pa_nil)) pa_nil)))) pss_nil)
    (pss_one (ps_ret (pe_lst (pa_cons (pe_callB (call_max2 rfl) (by rfl) T.max (by decide +kernel) (pa_cons pe_int (pa_cons (pe_op op_sub (pv 2) (pe_op op_powW pe_int pe_int)) pa_nil))) (pa_cons (pe_op op_add (pe_op op_modN (pe_callTy call_int1 (by rfl) T.int (by decide +kernel) (pa_cons (pv 2) pa_nil)) pe_int) (pe_op op_mulW pe_int (pv 1))) (pa_cons pe_int pa_nil)))))))), ?_⟩
  have fin : ∀ (c : Nat) (H : Hp), (∀ p H', H p = none → Sm H H' → BagAt H' p 900000 → Q (.ref p) H') → tRet (tLst (tCons (tCB (fun xs H Q => ∃ i j, xs = [V.int i, V.int j] ∧ Q (V.int (if j > i then j else i)) H) (tCons (tC (.int 0)) (tCons (tOp (rI0 fun i j => V.int (i - j)) (tVar 2) (tOp (rI CPowW fun i j => V.int (i ^ j.toNat)) (tC (.int 10)) (tC (.int 18)))) tNil)))
      (tCons (tOp (rI0 fun i j => V.int (i + j)) (tOp (rI (fun _ j => j ≠ 0) fun i j => V.int (i.fmod j)) (tCB (fun xs H Q => (∃ i, xs = [V.int i] ∧ Q (V.int i) H) ∨ ∃ k, xs = [V.bl k] ∧ Q (V.int (if k = true then 1 else 0)) H) (tCons (tVar 2) tNil)) (tC (.int 170141183460469231731687303715884105727))) (tOp (rI CMulW fun i j => V.int (i * j)) (tC (.int 7919)) (tVar 1))) (tCons (tC (.int 0)) tNil))))
      { nx := fun _ H' => Q .non H', rt := Q } [some (.ref a), some (.int k), some (.int c)] H := fun c H k_ => by
    have p130 : (2 : Nat) ^ 130 = 1361129467683753853853498429727072845824 := by decide +kernel
    obtain ⟨b0, e0⟩ : ∃ b0 : Nat, (if (c : Int) - (10 : Int) ^ (18 : Int).toNat > 0 then (c : Int) - (10 : Int) ^ (18 : Int).toNat else 0) = (b0 : Int) := ⟨(if (c : Int) - (10 : Int) ^ (18 : Int).toNat > 0 then (c : Int) - (10 : Int) ^ (18 : Int).toNat else 0).toNat, by rw [Int.toNat_of_nonneg]; split <;> omega⟩
    obtain ⟨b1, e1, l1⟩ : ∃ b1 : Nat, (c : Int).fmod 170141183460469231731687303715884105727 + 7919 * (k : Int) = (b1 : Int) ∧ b1 < 2 ^ 130 := ⟨c % 170141183460469231731687303715884105727 + 7919 * k, by rw [Int.fmod_eq_emod_of_nonneg _ (by decide)]; omega, by rw [p130]; omega⟩
    refine ⟨_, rfl, _, _, rfl, rfl, powW_ok (k := 10) (n := 18) (by decide) (by decide), _, _, rfl, rfl, _, _, rfl, ?_⟩
    refine ⟨_, rfl, .inl ⟨_, rfl, _, _, rfl, rfl, show (170141183460469231731687303715884105727 : Int) ≠ 0 by decide, _, rfl, _, _, rfl, rfl, wide_mul (a := 20) (b := 20) (by decide) (by simp; omega) (by decide) (by decide) (by decide), _, _, rfl, rfl, ?_⟩⟩
    refine ⟨by show 3 ≤ sizeLine; decide, fun p hp => k_ p _ hp (Sm.new hp) ⟨b0, b1, 0, ?_, l1, by omega, .inr rfl⟩⟩
    rw [upd_same]
    show some (HO.lst [V.int _, V.int _, V.int 0]) = _
    rw [e0, e1]
    rfl
  refine ⟨_, rfl, _, rfl, a, _, rfl, .inl hs, _, _, rfl, rfl, _, rfl, ?_⟩
  refine ifb (fun h => ?_) (fun h => ?_)
  · rw [List.length_map] at h
    obtain ⟨z, hz⟩ : ∃ z, ns[k]? = some z := ⟨_, List.getElem?_eq_getElem (by omega)⟩
    refine ⟨_, rfl, _, rfl, a, _, _, .int z, rfl, rfl, hs, atI_nat (by rw [List.getElem?_map, hz] <;> rfl), .inl ⟨z, rfl, z, rfl, ?_⟩⟩
    have e : (if z < 0 then -z else z) = (z.natAbs : Int) := by split <;> omega
    rw [e]
    exact fin z.natAbs H k_
  · exact fin 0 H k_
abbrev N_law_draw : List Str := ["bag", "many", "found", "mixed"]
theorem sc_law_draw : FnScope N_law_draw ["bag", "many"] (defScope s_law_draw) := ⟨rfl, rfl, rfl, by decide +kernel, rfl, by decide +kernel, by decide +kernel⟩
theorem hb_law_draw : HB s_law_draw "_law_draw" "_law_draw" ["bag", "many"] := fun _ _ _ _ _ _ us hl => match us, hl with | [_, _], _ => rfl

def spDraw : Sp := fun vs H Q _ => ∃ (a : Addr) (m n : Nat), vs = [.ref a, .int m] ∧ BagAt H a (n + 1) ∧ 1 ≤ m ∧ m < 2 ^ 1000 ∧ ∀ (r : Nat) H', r < m → Kz a H H' → BagAt H' a n → Q (.int r) H'
theorem g_law_draw {f : Addr} (T : Bt mg) (D : Df K "_law_draw" "_law_draw" s_law_draw f) (m : mg "_law_draw" = some (.ref f)) : Fn P w K mg base CXN 1 "_law_draw" ["bag", "many"] spDraw := by
  refine D.fn m sc_law_draw hb_law_draw (fun vs H Q E ⟨a, m, n, e, _⟩ => by rw [e]; rfl) fun cdv A outer s H vs Q E hr ⟨a, m, n, e, ⟨b0, b1, b2, hb, hb1, hb2, hbz⟩, hm, hm2, k_⟩ => ?_
  subst e
  refine ⟨_, (pss_cons (ps_if (pt_cmpR (op_gt) (pe_ix (ix_listK (K := K) rfl) (pv 0) pe_int (fun _ _ => rfl)) pe_int (nomark _)) (pss_cons (ps_set (i := 2) sc_law_draw.nd rfl (Or.inl rfl) (pe_op op_modN (pe_callTy call_int1 (by rfl) T.int (by decide +kernel) (pa_cons (pe_ix (ix_listK (K := K) rfl) (pv 0) pe_int (fun _ _ => rfl)) pa_nil)) (pv 1)))
    (pss_cons (ps_asg (pe_op op_fdivW (pe_ix (ix_listK (K := K) rfl) (pv 0) pe_int (fun _ _ => rfl)) (pv 1)) (pg_sub (pv 0) pe_int set_list))
    (pss_one (ps_ret (pv 2))))) pss_nil)
    (pss_cons (ps_asg (pe_op op_add (pe_ix (ix_listK (K := K) rfl) (pv 0) pe_int (fun _ _ => rfl)) pe_int) (pg_sub (pv 0) pe_int set_list))
    (pss_cons (ps_set (i := 3) sc_law_draw.nd rfl (Or.inl rfl) (pe_op op_modN (pe_callTy call_int1 (by rfl) T.int (by decide +kernel) (pa_cons (pe_op op_powW (pe_op op_add (pe_ix (ix_listK (K := K) rfl) (pv 0) pe_int (fun _ _ => rfl)) (pe_op op_mulW pe_int (pe_ix (ix_listK (K := K) rfl) (pv 0) pe_int (fun _ _ => rfl)))) pe_int) pa_nil)) pe_int))
    (pss_cons (ps_set (i := 3) sc_law_draw.nd rfl (Or.inl rfl) (pe_op op_modN (pe_callTy call_int1 (by rfl) T.int (by decide +kernel) (pa_cons (pe_op op_powW (pe_op op_add (pv 3) (pe_op op_mulW pe_int (pe_ix (ix_listK (K := K) rfl) (pv 0) pe_int (fun _ _ => rfl)))) pe_int) pa_nil)) pe_int))
    (pss_one (ps_ret (pe_op op_modN (pe_callTy call_int1 (by rfl) T.int (by decide +kernel) (pa_cons (pe_op op_fdivW (pv 3) (pe_op op_powW pe_int pe_int)) pa_nil)) (pv 1)))))))), ?_⟩
  have hm0 : (m : Int) ≠ 0 := by omega
  refine ⟨_, rfl, a, _, 0, _, rfl, rfl, SqL.of hb, rfl, _, _, rfl, rfl, _, rfl, ?_⟩
  refine ifb (fun h0 => ?_) (fun h0 => ?_)
  · refine ⟨_, rfl, a, _, 0, _, rfl, rfl, SqL.of hb, rfl, .inl ⟨_, rfl, _, rfl, _, _, rfl, rfl, hm0, ?_⟩⟩
    refine ⟨_, rfl, a, _, 0, _, rfl, rfl, SqL.of hb, rfl, _, rfl, _, _, rfl, rfl, wide_div (b := 1000) (by omega) (by simpa using hm2) (by decide) (by decide), ?_⟩
    refine ⟨_, rfl, a, _, 0, 0, rfl, rfl, hb, rfl, ?_⟩
    refine ⟨_, rfl, ?_⟩
    show Q (.int ((b0 : Int).fmod (m : Int))) _
    rw [modN_cast]
    exact k_ _ _ (Nat.mod_lt _ hm) ⟨fun x o n h => by rw [upd_ne n]; exact h, fun x h => by
      by_cases e : x = a
      · rw [e, upd_same] at h; cases h
      · rw [upd_ne e] at h; exact h⟩ ⟨b0 / m, b1, b2, upd_same, hb1, by omega, by omega⟩
  · refine ⟨_, rfl, a, _, 2, _, rfl, rfl, SqL.of hb, rfl, _, _, rfl, rfl, ?_⟩
    refine ⟨_, rfl, a, _, 2, 2, rfl, rfl, hb, rfl, ?_⟩
    have ec : (b2 : Int) + 1 = ((b2 + 1 : Nat) : Int) := by omega
    have kz : Kz a H (upd H a (.lst [.int b0, .int b1, .int ((b2 + 1 : Nat) : Int)])) := ⟨fun x o n h => by rw [upd_ne n]; exact h, fun x h => by
      by_cases e : x = a
      · rw [e, upd_same] at h; cases h
      · rw [upd_ne e] at h; exact h⟩
    have bg : BagAt (upd H a (.lst [.int b0, .int b1, .int ((b2 + 1 : Nat) : Int)])) a n := ⟨b0, b1, b2 + 1, upd_same, hb1, by omega, by omega⟩
    have hb' : (upd H a (.lst [.int b0, .int b1, .int ((b2 + 1 : Nat) : Int)])) a = some (.lst [.int b0, .int b1, .int ((b2 + 1 : Nat) : Int)]) := upd_same
    have eu : upd H a (.lst ([V.int b0, V.int b1, V.int b2].set 2 (V.int ((b2 : Int) + 1)))) = upd H a (.lst [.int b0, .int b1, .int ((b2 + 1 : Nat) : Int)]) := by rw [← ec]; rfl
    dsimp only
    rw [eu]
    generalize upd H a (.lst [.int b0, .int b1, .int ((b2 + 1 : Nat) : Int)]) = H2 at *
    have p130 : (2 : Nat) ^ 130 = 1361129467683753853853498429727072845824 := by decide +kernel
    have p140 : (2 : Nat) ^ 140 = 1393796574908163946345982392040522594123776 := by decide +kernel
    obtain ⟨v1, e1, l1⟩ := fmN (((b1 : Int) + 982451653 * ((b2 + 1 : Nat) : Int)) ^ (5 : Int).toNat) 170141183460469231731687303715884105727 (by decide)
    obtain ⟨v2, e2, l2⟩ := fmN (((v1 : Int) + 49979687 * ((b2 + 1 : Nat) : Int)) ^ (3 : Int).toNat) 162259276829213363391578010288127 (by decide)
    obtain ⟨v3, e3, l3⟩ := fmN ((v2 : Int) / (10 : Int) ^ (7 : Int).toNat) m (by omega)
    refine ⟨_, rfl, a, _, 1, _, rfl, rfl, SqL.of hb', rfl, _, rfl, a, _, 2, _, rfl, rfl, SqL.of hb', rfl, _, _, rfl, rfl, wide_mul (a := 40) (b := 40) (by decide) (by simp; omega) (by decide) (by decide) (by decide), _, _, rfl, rfl, _, _, rfl, rfl, powW_ok (k := 140) (n := 5) (by rw [p140]; omega) (by decide), .inl ⟨_, rfl, _, _, rfl, rfl, show (170141183460469231731687303715884105727 : Int) ≠ 0 by decide, ?_⟩⟩
    dsimp only
    rw [e1]
    refine ⟨_, rfl, _, rfl, a, _, 2, _, rfl, rfl, SqL.of hb', rfl, _, _, rfl, rfl, wide_mul (a := 40) (b := 40) (by decide) (by simp; omega) (by decide) (by decide) (by decide), _, _, rfl, rfl, _, _, rfl, rfl, powW_ok (k := 140) (n := 3) (by rw [p140]; omega) (by decide), .inl ⟨_, rfl, _, _, rfl, rfl, show (162259276829213363391578010288127 : Int) ≠ 0 by decide, ?_⟩⟩
    dsimp only
    rw [e2]
    refine ⟨_, rfl, _, _, rfl, rfl, powW_ok (k := 10) (n := 7) (by decide) (by decide), _, _, rfl, rfl, wide_div (b := 30) (by decide) (by decide) (by decide) (by decide), .inl ⟨_, rfl, _, rfl, _, _, rfl, rfl, hm0, ?_⟩⟩
    dsimp only
    rw [e3]
    exact k_ v3 H2 (by omega) kz bg
abbrev N_law_figures : List Str := ["n", "root", "found", "k"]
theorem sc_law_figures : FnScope N_law_figures ["n", "root"] (defScope s_law_figures) := ⟨rfl, rfl, rfl, by decide +kernel, rfl, by decide +kernel, by decide +kernel⟩
theorem hb_law_figures : HB s_law_figures "_law_figures" "_law_figures" ["n", "root"] := fun _ _ _ _ _ _ us hl => match us, hl with | [_, _], _ => rfl

def spLFigs : Sp := fun vs H Q _ => ∃ n b : Nat, vs = [.int n, .int b] ∧ 2 ≤ b ∧ b ≤ 16 ∧ (figs b n).length ≤ 210 ∧ ∀ p H', H p = none → Sm H H' → H' p = some (.lst (nV (figs b n).reverse)) → Q (.ref p) H'
theorem g_law_figures {f : Addr} (T : Bt mg) (D : Df K "_law_figures" "_law_figures" s_law_figures f) (m : mg "_law_figures" = some (.ref f)) : Fn P w K mg base CXN 1 "_law_figures" ["n", "root"] spLFigs := by
  refine D.fn m sc_law_figures hb_law_figures (fun vs H Q E ⟨n, b, e, _⟩ => by rw [e]; rfl) fun cdv A outer s H vs Q E hr ⟨n, b, e, h1, h2, h3, k_⟩ => ?_
  subst e
  refine ⟨_, (pss_cons (ps_set (i := 2) sc_law_figures.nd rfl (Or.inl rfl) (pe_lst pa_nil))
    (pss_cons (ps_for PassesOwn.never rfl (pi_range1 rfl T.range (pa_cons pe_int pa_nil)) (pg_name (i := 3) sc_law_figures.nd rfl (Or.inl rfl)) (pss_cons (ps_if (pt_cmpR (op_eq) (pv 0) pe_int (nomark _)) (pss_one ps_break) pss_nil)
    (pss_cons (ps_expr (pe_bm PySem.F.plainAttrs_list PySem.F.slot_list_append PySem.F.type_list_append mt_append (pv 2) (pa_cons (pe_op op_modN (pe_callTy call_int1 (by rfl) T.int (by decide +kernel) (pa_cons (pv 0) pa_nil)) (pv 1)) pa_nil)))
    (pss_one (ps_set (i := 0) sc_law_figures.nd rfl (Or.inl rfl) (pe_op op_fdivW (pv 0) (pv 1)))))))
    (pss_one (ps_ret (pv 2))))), ?_⟩
  refine ⟨Nat.zero_le _, fun l hl => ?_⟩
  have fin : ∀ (m : Nat) (acc : List Nat) (o : Option V) (H' : Hp), Sm H H' → H' l = some (.lst (nV acc)) → figs b n = figs b m ++ acc.reverse → m = 0 → tRet (tVar 2) { nx := fun x H' => Q V.non H', rt := Q } [some (.int m), some (.int b), some (.ref l), o] H' := fun m acc o H' e1 e2 e3 e4 => by
    refine ⟨_, rfl, k_ l H' hl e1 ?_⟩
    rw [e2, e3, e4, figs_zero, List.nil_append, List.reverse_reverse]
  refine ⟨_, rfl, by omega, by omega, for_range (lo := 0) (n := 210) (fun i σ H' => ∃ (m : Nat) (acc : List Nat) (o : Option V), σ = [some (.int m), some (.int b), some (.ref l), o] ∧ Sm H H' ∧ H' l = some (.lst (nV acc)) ∧ figs b n = figs b m ++ acc.reverse ∧ acc.length = i)
    ⟨n, [], _, rfl, Sm.new hl, upd_same, by simp, rfl⟩ ?_ ?_⟩
  · rintro i σ H1 hi ⟨m, acc, o, rfl, e1, e2, e3, e5⟩
    refine ⟨_, rfl, rfl, _, rfl, ?_⟩
    refine ifb (fun h => ?_) (fun h => ?_)
    · have m0 : m = 0 := by injection h with z; omega
      exact fin m acc _ H1 e1 e2 e3 m0
    · have mp : 0 < m := Nat.pos_of_ne_zero fun z => h (by rw [z]; rfl)
      refine ⟨_, rfl, .inl ⟨rfl, _, SqL.of e2⟩, _, rfl, .inl ⟨_, rfl, _, rfl, _, _, rfl, rfl, by omega, ?_⟩⟩
      refine ⟨l, _, _, rfl, rfl, e2, by rw [List.length_map]; exact sz_lt (by omega), ?_⟩
      refine ⟨_, rfl, _, rfl, _, _, rfl, rfl, wide_div (b := 10) (by omega) (by simp; omega) (by decide) (by decide), ?_⟩
      refine ⟨m / b, acc ++ [m % b], _, rfl, e1.mut hl, ?_, ?_, by rw [List.length_append, List.length_singleton]; omega⟩
      · rw [upd_same]
        show some (HO.lst (nV acc ++ [V.int ((m : Int).fmod (b : Int))])) = _
        rw [modN_cast, nV, nV, List.map_append]; rfl
      · rw [e3, figs_pos h1 mp, List.reverse_append, List.append_assoc]; rfl
  · rintro σ H1 ⟨m, acc, o, rfl, e1, e2, e3, e5⟩
    refine fin m acc o H1 e1 e2 e3 ?_
    apply Classical.byContradiction
    intro hm
    have h4 := congrArg List.length e3
    rw [List.length_append, List.length_reverse, figs_pos h1 (Nat.pos_of_ne_zero hm), List.length_append, List.length_singleton] at h4
    omega
theorem figs_fit {b n : Nat} (hb : 2 ≤ b) (h : n < 2 ^ 205) : (figs b n).length ≤ 210 := Nat.le_trans (figs_len hb 205 h) (by decide)
end
end Bz
end
section
set_option Elab.async false
set_option linter.all false
set_option maxRecDepth 100000
set_option maxHeartbeats 4000000
namespace Bz
open PySem PySem.Spec PyProof.Rows L2 LamX NdefX
/-- a plain test -/
inductive PT where
  | rest (d r : Nat)
  | multiple (d : Nat)
  | bears (g : Nat)
  | ends (g : Nat)
  | sum (d r : Nat)
  | every
def PT.vals : PT → List V
  | .rest d r => [.str "rest", .int d, .int r]
  | .multiple d => [.str "multiple", .int d]
  | .bears g => [.str "bears", .int g]
  | .ends g => [.str "ends", .int g]
  | .sum d r => [.str "sum", .int d, .int r]
  | .every => [.str "every"]
def PT.ok (b : Nat) : PT → Prop
  | .rest d r => 2 ≤ d ∧ d ≤ 12 ∧ r < d
  | .multiple d => 2 ≤ d ∧ d ≤ 12
  | .bears g => g < b
  | .ends g => g < b
  | .sum d r => 2 ≤ d ∧ d ≤ 12 ∧ r < d
  | .every => True
def PT.F (b : Nat) : PT → Nat → Bool
  | .rest d r => fun n => decide (n % d = r)
  | .multiple d => fun n => decide (n % d = 0)
  | .bears g => fun n => decide (g ∈ figs b n)
  | .ends g => fun n => decide (n % b = g)
  | .sum d r => fun n => decide ((figs b n).sum % d = r)
  | .every => fun _ => true
theorem atI_zero {α : Type} (x : α) (l : List α) : atI (x :: l) 0 = some x := atI_nat (xs := x :: l) (j := 0) rfl
theorem hd_ne {σ : L2.St} {H : Hp} {i : Nat} {a c : Str} {Q : Bool → Hp → Prop} (hi : σ[i]? = some (some (V.str a))) (h : a ≠ c) (q : Q false H) : tTest (tOp rEq (tVar i) (tC (.str c))) σ H Q := by
  refine ⟨_, hi, rfl, _, rfl, ?_⟩
  rw [decide_eq_false fun z => h (by injection z)]
  exact q
theorem hd_eq {σ : L2.St} {H : Hp} {i : Nat} {a : Str} {Q : Bool → Hp → Prop} (hi : σ[i]? = some (some (V.str a))) (q : Q true H) : tTest (tOp rEq (tVar i) (tC (.str a))) σ H Q := by
  refine ⟨_, hi, rfl, _, rfl, ?_⟩
  rw [decide_eq_true rfl]
  exact q
theorem dec_int0 (a : Nat) : decide ((V.int (a : Nat)) = V.int 0) = decide (a = 0) := dec_int a 0
theorem figs_sum_cast (l : List Nat) : ((l.map fun k : Nat => (k : Int)).sum) = ((l.sum : Nat) : Int) := by
  induction l with
  | nil => rfl
  | cons a l ih => rw [List.map_cons, List.sum_cons, List.sum_cons, ih]; simp
theorem inV_nV (g : Nat) (l : List Nat) : inV (.int g) (nV l) = decide (g ∈ l) := by
  unfold inV nV
  induction l with
  | nil => simp
  | cons a l ih =>
    rw [List.map_cons, List.any_cons, ih]
    have e : eqV (V.int (a : Nat)) (V.int (g : Nat)) = decide (g = a) := by
      show ((a : Int) == (g : Int)) = _
      by_cases h : g = a
      · rw [h, decide_eq_true rfl]; simp
      · rw [decide_eq_false h]
        simp
        omega
    rw [e]
    simp [Bool.decide_or]
theorem flat_nV (l : List Nat) : (nV l).all flatV = true := by
  unfold nV
  rw [List.all_map, List.all_eq_true]
  intro x _
  rfl
end Bz
end
section
set_option Elab.async false
set_option linter.all false
set_option maxRecDepth 100000
set_option maxHeartbeats 4000000
namespace Bz
open PySem PySem.Spec PyProof.Rows L2 LamX NdefX
/-! ### tests made of others; what a pool of parts can tell -/
inductive LT where
  | pl (t : PT)
  | not (a : LT)
  | and (a b : LT)
  | or (a b : LT)
  | xor (a b : LT)
def LT.F (b : Nat) : LT → Nat → Bool
  | .pl t => t.F b
  | .not a => fun n => !(a.F b n)
  | .and x y => fun n => x.F b n && y.F b n
  | .or x y => fun n => x.F b n || y.F b n
  | .xor x y => fun n => x.F b n != y.F b n
def LT.dep : LT → Nat
  | .pl _ => 1
  | .not a => a.dep + 1
  | .and x y => max x.dep y.dep + 1
  | .or x y => max x.dep y.dep + 1
  | .xor x y => max x.dep y.dep + 1
theorem LT.dep_pos (t : LT) : 1 ≤ t.dep := by cases t <;> simp [LT.dep]
/-- the tuple of a test -/
def LT.At (H : Hp) : Addr → LT → Prop
  | p, .pl t => H p = some (.tup t.vals)
  | p, .not a => ∃ q, H p = some (.tup [.str "not", .ref q]) ∧ LT.At H q a
  | p, .and a b => ∃ q r, H p = some (.tup [.str "and", .ref q, .ref r]) ∧ LT.At H q a ∧ LT.At H r b
  | p, .or a b => ∃ q r, H p = some (.tup [.str "or", .ref q, .ref r]) ∧ LT.At H q a ∧ LT.At H r b
  | p, .xor a b => ∃ q r, H p = some (.tup [.str "xor", .ref q, .ref r]) ∧ LT.At H q a ∧ LT.At H r b
theorem LT.At.keep {H H' : Hp} (e : ∀ b ys, H b = some (.tup ys) → H' b = some (.tup ys)) : ∀ {t : LT} {p : Addr}, LT.At H p t → LT.At H' p t
  | .pl _, _, h => e _ _ h
  | .not _, _, ⟨q, h1, h2⟩ => ⟨q, e _ _ h1, LT.At.keep e h2⟩
  | .and _ _, _, ⟨q, r, h1, h2, h3⟩ => ⟨q, r, e _ _ h1, LT.At.keep e h2, LT.At.keep e h3⟩
  | .or _ _, _, ⟨q, r, h1, h2, h3⟩ => ⟨q, r, e _ _ h1, LT.At.keep e h2, LT.At.keep e h3⟩
  | .xor _ _, _, ⟨q, r, h1, h2, h3⟩ => ⟨q, r, e _ _ h1, LT.At.keep e h2, LT.At.keep e h3⟩
theorem LT.At.nn {H : Hp} {t : LT} {p : Addr} (h : LT.At H p t) : ∃ ys, H p = some (.tup ys) := by
  cases t with
  | pl t => exact ⟨_, h⟩
  | not a => obtain ⟨q, h, _⟩ := h; exact ⟨_, h⟩
  | and a b => obtain ⟨q, r, h, _⟩ := h; exact ⟨_, h⟩
  | or a b => obtain ⟨q, r, h, _⟩ := h; exact ⟨_, h⟩
  | xor a b => obtain ⟨q, r, h, _⟩ := h; exact ⟨_, h⟩
theorem kz_tup {a : Addr} {n : Nat} {H H' : Hp} (bg : BagAt H a n) (k : Kz a H H') : ∀ b ys, H b = some (.tup ys) → H' b = some (.tup ys) := fun b ys h => k.at_ _ _ (fun z => by
  obtain ⟨b0, b1, b2, hb, _⟩ := bg
  rw [z, hb] at h; cases h) h
theorem LT.At.kz {a : Addr} {n : Nat} {H H' : Hp} {t : LT} {p : Addr} (bg : BagAt H a n) (k : Kz a H H') (h : LT.At H p t) : LT.At H' p t := h.keep (kz_tup bg k)
theorem LT.At.kp {H H' : Hp} {t : LT} {p : Addr} (k : Kp H H') (h : LT.At H p t) : LT.At H' p t := h.keep fun b ys h => k.tup h
/-- tests whose parts are good ones -/
def LT.ok (b : Nat) : LT → Prop
  | .pl t => t.ok b
  | .not a => a.ok b
  | .and x y => x.ok b ∧ y.ok b
  | .or x y => x.ok b ∧ y.ok b
  | .xor x y => x.ok b ∧ y.ok b
/-- what the parts of a case are made of -/
structure Pool where
  d : Nat
  s : Nat
  g : Nat
  l : Nat
structure Pool.Good (q : Pool) (b : Nat) : Prop where
  d2 : 2 ≤ q.d
  d12 : q.d ≤ 12
  s2 : 2 ≤ q.s
  s12 : q.s ≤ 12
  gb : q.g < b
  lb : q.l < b
  few : q.d * q.s * 4 ≤ 200
def PT.inP (q : Pool) : PT → Prop
  | .rest d r => d = q.d ∧ r < d
  | .multiple d => d = q.d
  | .bears g => g = q.g
  | .ends g => g = q.l
  | .sum d r => d = q.s ∧ r < d
  | .every => True
def LT.inP (q : Pool) : LT → Prop
  | .pl t => t.inP q
  | .not a => a.inP q
  | .and x y => x.inP q ∧ y.inP q
  | .or x y => x.inP q ∧ y.inP q
  | .xor x y => x.inP q ∧ y.inP q
theorem PT.inP.ok {q : Pool} {b : Nat} (G : q.Good b) : ∀ {t : PT}, t.inP q → t.ok b
  | .rest _ _, h => ⟨by rw [h.1]; exact G.d2, by rw [h.1]; exact G.d12, h.2⟩
  | .multiple d, h => by
    have h : d = q.d := h
    exact ⟨by rw [h]; exact G.d2, by rw [h]; exact G.d12⟩
  | .bears g, h => by
    have h : g = q.g := h
    show g < b
    rw [h]; exact G.gb
  | .ends g, h => by
    have h : g = q.l := h
    show g < b
    rw [h]; exact G.lb
  | .sum _ _, h => ⟨by rw [h.1]; exact G.s2, by rw [h.1]; exact G.s12, h.2⟩
  | .every, _ => True.intro
theorem LT.inP.ok {q : Pool} {b : Nat} (G : q.Good b) : ∀ {t : LT}, t.inP q → t.ok b
  | .pl _, h => PT.inP.ok G h
  | .not a, h => LT.inP.ok (t := a) G h
  | .and _ _, h => ⟨LT.inP.ok G h.1, LT.inP.ok G h.2⟩
  | .or _ _, h => ⟨LT.inP.ok G h.1, LT.inP.ok G h.2⟩
  | .xor _ _, h => ⟨LT.inP.ok G h.1, LT.inP.ok G h.2⟩
/-- all that a pool can tell of a number -/
def Pool.φ (q : Pool) (b n : Nat) : Nat × Nat × Bool × Bool := (n % q.d, (figs b n).sum % q.s, decide (q.g ∈ figs b n), decide (n % b = q.l))
def Pool.Ul (q : Pool) : List (Nat × Nat × Bool × Bool) := (List.range q.d).flatMap fun i => (List.range q.s).flatMap fun j => [(i, j, true, true), (i, j, true, false), (i, j, false, true), (i, j, false, false)]
theorem len_flat {α β : Type} (f : α → List β) (k : Nat) : ∀ l : List α, (∀ x ∈ l, (f x).length = k) → (l.flatMap f).length = l.length * k
  | [], _ => by simp
  | a :: l, h => by
    rw [List.flatMap_cons, List.length_append, len_flat f k l fun x hx => h x (List.mem_cons_of_mem _ hx), h a List.mem_cons_self, List.length_cons, Nat.succ_mul, Nat.add_comm]
theorem Pool.Ul_len (q : Pool) : q.Ul.length = q.d * q.s * 4 := by
  unfold Pool.Ul
  rw [len_flat _ (q.s * 4) _ fun i _ => by rw [len_flat _ 4 _ fun j _ => rfl, List.length_range], List.length_range, Nat.mul_assoc]
theorem Pool.φ_mem {q : Pool} {b : Nat} (G : q.Good b) (n : Nat) : q.φ b n ∈ q.Ul := by
  unfold Pool.Ul Pool.φ
  have h1 := G.d2
  have h2 := G.s2
  refine List.mem_flatMap.mpr ⟨n % q.d, List.mem_range.mpr (Nat.mod_lt _ (by omega)), List.mem_flatMap.mpr ⟨(figs b n).sum % q.s, List.mem_range.mpr (Nat.mod_lt _ (by omega)), ?_⟩⟩
  cases decide (q.g ∈ figs b n) <;> cases decide (n % b = q.l) <;> simp
theorem Pool.φ_step {q : Pool} {b : Nat} (hb : 2 ≤ b) (n k : Nat) (hn : 0 < n) (hk : 0 < k) (e : q.φ b n = q.φ b k) (f : Nat) (hf : f < b) : q.φ b (n * b + f) = q.φ b (k * b + f) := by
  unfold Pool.φ at e ⊢
  injection e with e1 e
  injection e with e2 e
  injection e with e3 e4
  rw [figs_snoc hb hf (.inl hn), figs_snoc hb hf (.inl hk)]
  have z1 : (n * b + f) % q.d = (k * b + f) % q.d := by
    rw [Nat.add_mod, Nat.mul_mod, e1, ← Nat.mul_mod, ← Nat.add_mod]
  have z2 : (figs b n ++ [f]).sum % q.s = (figs b k ++ [f]).sum % q.s := by
    rw [List.sum_append, List.sum_append, Nat.add_mod, e2, ← Nat.add_mod]
  have z3 : decide (q.g ∈ figs b n ++ [f]) = decide (q.g ∈ figs b k ++ [f]) := by
    have : (q.g ∈ figs b n) ↔ (q.g ∈ figs b k) := by simpa using e3
    simp [this]
  have m4 : ∀ x : Nat, (x * b + f) % b = f := fun x => by
    rw [Nat.add_comm, Nat.add_mul_mod_self_right, Nat.mod_eq_of_lt hf]
  rw [z1, z2, z3, m4, m4]
theorem PT.F_φ {q : Pool} {b n k : Nat} (e : q.φ b n = q.φ b k) : ∀ {t : PT}, t.inP q → t.F b n = t.F b k := by
  unfold Pool.φ at e
  injection e with e1 e
  injection e with e2 e
  injection e with e3 e4
  intro t h
  cases t with
  | rest d r =>
    show decide (n % d = r) = decide (k % d = r)
    rw [h.1, e1]
  | multiple d =>
    have h : d = q.d := h
    show decide (n % d = 0) = decide (k % d = 0)
    rw [h, e1]
  | bears g =>
    have h : g = q.g := h
    show decide (g ∈ figs b n) = decide (g ∈ figs b k)
    rw [h, e3]
  | ends g =>
    have h : g = q.l := h
    show decide (n % b = g) = decide (k % b = g)
    rw [h, e4]
  | sum d r =>
    show decide ((figs b n).sum % d = r) = decide ((figs b k).sum % d = r)
    rw [h.1, e2]
  | every => rfl
theorem LT.F_φ {q : Pool} {b n k : Nat} (e : q.φ b n = q.φ b k) : ∀ {t : LT}, t.inP q → t.F b n = t.F b k
  | .pl _, h => PT.F_φ e h
  | .not a, h => by
    have := LT.F_φ (t := a) e h
    show (!(a.F b n)) = !(a.F b k)
    rw [this]
  | .and x y, h => by
    show (x.F b n && y.F b n) = (x.F b k && y.F b k)
    rw [LT.F_φ e h.1, LT.F_φ e h.2]
  | .or x y, h => by
    show (x.F b n || y.F b n) = (x.F b k || y.F b k)
    rw [LT.F_φ e h.1, LT.F_φ e h.2]
  | .xor x y, h => by
    show (x.F b n != y.F b n) = (x.F b k != y.F b k)
    rw [LT.F_φ e h.1, LT.F_φ e h.2]
/-- what hangs on a pool alone has a small least machine -/
theorem Pool.small {q : Pool} {b : Nat} (G : q.Good b) (hb : 2 ≤ b) {F : Nat → Bool} (hF : ∀ n k, q.φ b n = q.φ b k → F n = F k) : ∀ m' g' mk', Canon b m' g' mk' F → m' ≤ 200 := fun m' g' mk' c => by
  have := c.le_of hb (q.φ b) q.Ul (fun n _ => q.φ_mem G n) (fun n k hn hk e f hf => q.φ_step hb n k hn hk e f hf) (fun n k _ _ e => hF n k e)
  rw [q.Ul_len] at this
  exact Nat.le_trans this G.few
theorem Canon.neg {b m : Nat} {g : List (List (Option Nat))} {mk F : Nat → Bool} (c : Canon b m g mk F) : Canon b m g (fun s => !mk s) (fun n => !F n) :=
  ⟨c.met, fun n hn => by show (!mk (run g b n)) = !F n; rw [c.tells n hn], fun s t h1 h2 h3 h4 h => c.least s t h1 h2 h3 h4 fun w hw => by
    have := h w hw
    dsimp only at this
    exact Bool.not_inj this⟩
end Bz
end
section
set_option Elab.async false
set_option linter.all false
set_option maxRecDepth 100000
set_option maxHeartbeats 2000000
namespace Bz
open PySem PySem.Spec PyProof.Rows L2 LamX NdefX
/-! ### `&`, `|`, `^`, `~` by the text's own methods -/
def rOwnBin (C : Addr) (sp : Sp) (E : XK) : R2 := fun x y H Q => ∃ a b dx fs dy gs, x = .ref a ∧ y = .ref b ∧ H a = some (.ins C dx fs) ∧ H b = some (.ins C dy gs) ∧ sp [.ref a, .ref b] H (fun v H' => ∃ r, v = .ref r ∧ Q (.ref r) H') E
def rOwnUn (C : Addr) (sp : Sp) (E : XK) : V → Hp → VK → Prop := fun x H Q => ∃ a dx fs, x = .ref a ∧ H a = some (.ins C dx fs) ∧ sp [.ref a] H Q E
section
variable {X : Cx} {CX : CXT} {k : Nat} {C : Addr} {ps : List Str} {sp : Sp} {E : XK}
theorem op_ownBin {op : Operator} (sf : PySem.W.selfFirst X.K C = true) (G : Mt X.prog X.w X.K X.mg X.base CX k C (PySem.dunder op.info.2) ps sp) (hr : Room k X.A) (hx : Passes CX X E) : OpR X (binaryOp op) (rOwnBin C sp E) := by
  obtain ⟨f, fd, F, M, hb⟩ := G.ex
  intro pins s σ H x y v u Q I rx ry ⟨a, b, dx, fs, dy, gs, ex, ey, ha, hb', h⟩
  subst ex ey
  obtain rfl : v = Value.ref a := rx
  obtain rfl : u = Value.ref b := ry
  obtain ⟨mA, J, _⟩ := ins_get I.hok ha
  obtain ⟨mB, J', _⟩ := ins_get I.hok hb'
  obtain ⟨od, J, _⟩ := J.look
  obtain ⟨od', J', _⟩ := J'.look
  obtain ⟨m, hF⟩ := I.fr
  refine PySem.W.binop_K hF I.ok.mod.kin J J'.type sf M.at_ M.fn ?_
  refine thn (run_fn (us := [.ref a, .ref b]) (vs := [.ref a, .ref b]) F hr hb .nil hx I (.cons rfl (.cons rfl .nil)) h) fun r s1 ⟨z, H1, I1, rz, c, ez, q⟩ => ?_
  subst ez
  obtain rfl : r = Value.ref c := rz
  exact ⟨.ref c, H1, I1, rfl, q⟩
theorem un_ownInv (G : Mt X.prog X.w X.K X.mg X.base CX k C "__invert__" ps sp) (hr : Room k X.A) (hx : Passes CX X E) : UnR X (unaryOp .Invert) (rOwnUn C sp E) := by
  obtain ⟨f, fd, F, M, hb⟩ := G.ex
  intro pins s σ H x v Q I rx ⟨a, dx, fs, ex, ha, h⟩
  subst ex
  obtain rfl : v = Value.ref a := rx
  obtain ⟨mA, J, _⟩ := ins_get I.hok ha
  obtain ⟨od, J, _⟩ := J.look
  unfold unaryOp
  refine wpAny_holding ?_
  dsimp only
  refine wpAny_bind (PySem.W.special_fn I.kIn J M.at_ (beq_iff_eq.mp M.fn) ?_)
  refine thn (run_fn (us := [.ref a]) (vs := [.ref a]) F hr hb .nil hx I (.cons rfl .nil) h) fun r s1 hq => ?_
  exact wpAny_pure hq
end
/-! ### a method of a tuple that is written there -/
def tTupM (r : V → List V → Hp → VK → Prop) (to : TA) (t : TA) : TE := fun σ H Q => to σ H fun ys H1 => ys.length ≤ sizeLine ∧ ∀ p, H1 p = none → t σ (upd H1 p (.tup ys)) fun xs H2 => r (.ref p) xs H2 Q
theorem pe_tupM {X : Cx} {e : Expr} {os es : List Expr} {to : TA} {t : TA} {name : Str} {x1 : Nat} {tpos apos cpos : Pos} {id : String} {r : V → List V → Hp → VK → Prop} (slot : Slot "tuple" name id) (hty : typeOf (.builtin id) = pure (.type "method_descriptor")) (hm : MtR X id r) (ho : PA X os to) (ha : PA X (e :: es) t)
    (hbase : attributeBase (.Tuple os x1 tpos) name X.env (eval (.Tuple os x1 tpos) X.env) = eval (.Tuple os x1 tpos) X.env := by rfl)
    (hfew : ((backTo cpos (starEach (e :: es) X.env)).all (fun x => !x.1) && (backToKw cpos (keywordEach [] X.env)).all (fun x => x.1.isSome)
      && decide ((e :: es).length + ([] : List Keyword).length + (if ([] : List Keyword).isEmpty then 0 else 1) < 30)) = true := by rfl)
    (hline : (apos.endLine == cpos.line) = true := by rfl) (hs : starEach (e :: es) X.env = (false, eval e X.env) :: starEach es X.env := by rfl) (hplain : (backTo cpos (starEach es X.env)).any (·.1) = false := by rfl) :
    PE X (.Call (.Attribute (.Tuple os x1 tpos) name apos) (e :: es) [] cpos) (tTupM r to t) := by
  refine ⟨fun pins s σ H Q I h => ?_⟩
  refine wpAny_Call_method_late hbase hfew hline rfl ?_
  refine wpAny_Tuple_spliced (thn (ho.run tpos pins s σ H _ I h) fun us s1 ⟨xs, H1, I1, r1, z, q⟩ => ⟨by rw [← r1.length]; exact z, ?_⟩)
  have hf : H1 s1.heap.objs.size = none := I1.hok.fresh (Nat.le_refl _)
  have I2 : Inv X pins σ (upd H1 s1.heap.objs.size (.tup xs)) { s1 with heap := s1.heap.push { cls := .type "tuple", data := .seq us.toArray } } := I1.laid (t' := s1.toks) (fun b u e => Heap.get?_push_of_some _ e) (Nat.le_refl _) ⟨z, us, r1, ⟨_, Heap.get?_push_size _ rfl, rfl, _, rfl⟩⟩
  have hat : (s1.heap.push { cls := .type "tuple", data := .seq us.toArray }).get? s1.heap.objs.size = some { cls := .type "tuple", data := .seq us.toArray } := Heap.get?_push_size _ rfl
  refine ⟨"tuple", id, PySem.F.plainAttrs_tuple, slot, hty, ⟨_, hat, rfl⟩, fun a ea => by cases ea; exact ⟨_, hat, rfl⟩, ?_⟩
  have hA := ha.run cpos pins _ σ _ _ I2 (q _ hf)
  rw [hs] at hA ⊢
  refine Calls.callWith_builtin (by show (false || (backTo cpos (starEach es X.env)).any (·.1)) = false; rw [hplain] <;> rfl) (Calls.evalArgs_plain ?_)
  exact thn hA fun us s2 ⟨vs, H2, I2, r2, q2⟩ => hm pins s2 σ H2 (.ref _) vs (.ref _) us Q I2 rfl r2 q2
end Bz
end
section
set_option Elab.async false
set_option linter.all false
set_option maxRecDepth 100000
set_option maxHeartbeats 4000000
namespace Bz
open PySem PySem.Spec PyProof.Rows L2 LamX NdefX
theorem andv {σ : L2.St} {H : Hp} {i j : Nat} {x y : Bool} {Q : VK} (hi : σ[i]? = some (some (V.bl x))) (hj : σ[j]? = some (some (V.bl y))) (h : Q (.bl (x && y)) H) : tAndV (tVar i) (tVar j) σ H Q := by
  refine ⟨_, hi, x, rfl, ?_⟩
  cases x
  · exact h
  · exact ⟨_, hj, h⟩
theorem orv {σ : L2.St} {H : Hp} {i j : Nat} {x y : Bool} {Q : VK} (hi : σ[i]? = some (some (V.bl x))) (hj : σ[j]? = some (some (V.bl y))) (h : Q (.bl (x || y)) H) : tOrV (tVar i) (tVar j) σ H Q := by
  refine ⟨_, hi, x, rfl, ?_⟩
  cases x
  · exact ⟨_, hj, h⟩
  · exact h
theorem nev {x y : Bool} : (!decide (V.bl x = V.bl y)) = (x != y) := by cases x <;> cases y <;> rfl
section
variable {P : Program} {w : World} {K : PySem.W.Frag} {mg : Str → Option Value} {base : Heap}
abbrev N_law_in : List Str := ["root", "test", "n", "head", "one", "two", "figs"]
theorem sc_law_in : FnScope N_law_in ["root", "test", "n"] (defScope s_law_in) := ⟨rfl, rfl, rfl, by decide +kernel, rfl, by decide +kernel, by decide +kernel⟩
theorem hb_law_in : HB s_law_in "_law_in" "_law_in" ["root", "test", "n"] := fun _ _ _ _ _ _ us hl => match us, hl with | [_, _, _], _ => rfl

def spLInR (d : Nat) : Sp := fun vs H Q _ => ∃ (p : Addr) (t : LT) (b n : Nat), vs = [.int b, .ref p, .int n] ∧ LT.At H p t ∧ t.dep ≤ d ∧ t.ok b ∧ 2 ≤ b ∧ b ≤ 16 ∧ 0 < n ∧ (figs b n).length ≤ 210 ∧ ∀ H', Sm H H' → Q (.bl (t.F b n)) H'
theorem g_law_inR {f : Addr} (T : Bt mg) (D : Df K "_law_in" "_law_in" s_law_in f) (m : mg "_law_in" = some (.ref f)) (G1 : Fn P w K mg base CXN 1 "_law_figures" ["n", "root"] spLFigs) (d : Nat) : Fn P w K mg base CXN (2 + d) "_law_in" ["root", "test", "n"] (spLInR d) := by
  induction d with
  | zero =>
    refine D.fn (k := 1) m sc_law_in hb_law_in (fun vs H Q E ⟨p, t, b, n, e, _⟩ => by rw [e]; rfl) fun cdv A outer s H vs Q E hr ⟨p, t, b, n, e, hp, hd, _⟩ => ?_
    have := t.dep_pos
    omega
  | succ d Gr =>
  refine D.fn (k := 2 + d) m sc_law_in hb_law_in (fun vs H Q E ⟨p, t, b, n, e, _⟩ => by rw [e]; rfl) fun cdv A outer s H vs Q E hr ⟨p, t, b, n, e, hp, hdep, hok, hb, hb2, hn, hn2, k_⟩ => ?_
  subst e
  refine ⟨_, (pss_cons (ps_set (i := 3) sc_law_in.nd rfl (Or.inl rfl) (pe_ix (ix_tupK (K := K) rfl) (pv 1) pe_int (fun _ _ => rfl)))
    (pss_cons (ps_if (pt_cmpR (op_eq) (pv 3) pe_str (nomark _)) (pss_one (ps_ret (pe_not (pe_fn Gr hr (by rfl) pass0 (pa_cons (pv 0) (pa_cons (pe_ix (ix_tupK (K := K) rfl) (pv 1) pe_int (fun _ _ => rfl)) (pa_cons (pv 2) pa_nil))))))) pss_nil)
    (pss_cons (ps_if (pt_cmpR (op_in_seqK (K := K) rfl) (pv 3) (pe_tup (pa_cons pe_str (pa_cons pe_str (pa_cons pe_str pa_nil)))) (by rfl)) (pss_cons (ps_par (i := 4) (j := 5) (by rfl) sc_law_in.nd rfl rfl (by decide) rfl rfl (pa_cons (pe_fn Gr hr (by rfl) pass0 (pa_cons (pv 0) (pa_cons (pe_ix (ix_tupK (K := K) rfl) (pv 1) pe_int (fun _ _ => rfl)) (pa_cons (pv 2) pa_nil)))) (pa_cons (pe_fn Gr hr (by rfl) pass0 (pa_cons (pv 0) (pa_cons (pe_ix (ix_tupK (K := K) rfl) (pv 1) pe_int (fun _ _ => rfl)) (pa_cons (pv 2) pa_nil)))) pa_nil)) (by rfl))
    (pss_one (ps_ret (pe_ix (ix_tupK (K := K) rfl) (pe_tup (pa_cons (pe_and (pv 4) (pe_one (pv 5))) (pa_cons (pe_or (pv 4) (pe_one (pv 5))) (pa_cons (pe_cmpR (op_ne) (pv 4) (pv 5) (nomark _)) pa_nil)))) (pe_tupM PySem.F.slot_tuple_index PySem.F.type_tuple_index mt_tup_index (pa_cons pe_str (pa_cons pe_str (pa_cons pe_str pa_nil))) (pa_cons (pv 3) pa_nil)) (fun _ _ => rfl))))) pss_nil)
    (pss_cons (ps_if (pt_cmpR (op_eq) (pv 3) pe_str (nomark _)) (pss_one (ps_ret (pe_cmpR (op_eq) (pe_op op_modN (pe_callTy call_int1 (by rfl) T.int (by decide +kernel) (pa_cons (pv 2) pa_nil)) (pe_ix (ix_tupK (K := K) rfl) (pv 1) pe_int (fun _ _ => rfl))) pe_int (nomark _)))) pss_nil)
    (pss_cons (ps_if (pt_cmpR (op_eq) (pv 3) pe_str (nomark _)) (pss_one (ps_ret (pe_cmpR (op_eq) (pe_op op_modN (pe_callTy call_int1 (by rfl) T.int (by decide +kernel) (pa_cons (pv 2) pa_nil)) (pe_ix (ix_tupK (K := K) rfl) (pv 1) pe_int (fun _ _ => rfl))) (pe_ix (ix_tupK (K := K) rfl) (pv 1) pe_int (fun _ _ => rfl)) (nomark _)))) pss_nil)
    (pss_cons (ps_if (pt_cmpR (op_eq) (pv 3) pe_str (nomark _)) (pss_one (ps_ret pe_bl)) pss_nil)
    (pss_cons (ps_set (i := 6) sc_law_in.nd rfl (Or.inl rfl) (pe_fn G1 (hr.mono (by omega)) (by rfl) pass0 (pa_cons (pv 2) (pa_cons (pv 0) pa_nil))))
    (pss_cons (ps_if (pt_cmpR (op_eq) (pv 3) pe_str (nomark _)) (pss_one (ps_ret (pe_cmpR (op_eq) (pe_op op_modN (pe_callTy call_int1 (by rfl) T.int (by decide +kernel) (pa_cons (pe_callB (cr_sumK (K := K) rfl rfl) (by rfl) T.sum (by decide +kernel) (pa_cons (pv 6) pa_nil)) pa_nil)) (pe_ix (ix_tupK (K := K) rfl) (pv 1) pe_int (fun _ _ => rfl))) (pe_ix (ix_tupK (K := K) rfl) (pv 1) pe_int (fun _ _ => rfl)) (nomark _)))) pss_nil)
    (pss_one (ps_ret (pe_ifExp (pt_cmpR (op_eq) (pv 3) pe_str (nomark _)) (pe_cmpR (op_eq) (pe_ix (ix_listK (K := K) rfl) (pv 6) pe_int (fun _ _ => rfl)) (pe_ix (ix_tupK (K := K) rfl) (pv 1) pe_int (fun _ _ => rfl)) (nomark _)) (pe_cmpR (op_in_seqK (K := K) rfl) (pe_ix (ix_tupK (K := K) rfl) (pv 1) pe_int (fun _ _ => rfl)) (pv 6) (by rfl))))))))))))), ?_⟩
  have shape : (∃ tp, t = .pl tp) ∨ (∃ a, t = .not a) ∨ ∃ (x y : LT) (hd : Str) (q r : Addr) (j : Nat), H p = some (.tup [.str hd, .ref q, .ref r]) ∧ LT.At H q x ∧ LT.At H r y ∧ max x.dep y.dep + 1 ≤ d + 1 ∧ x.ok b ∧ y.ok b ∧ hd ≠ "not" ∧ (["and", "or", "xor"] : List Str)[j]? = some hd ∧ (∀ k, k < j → (["and", "or", "xor"] : List Str)[k]? ≠ some hd) ∧
      inV (.str hd) [.str "and", .str "or", .str "xor"] = true ∧ (∀ H', Sm H H' → ∃ v, [V.bl (x.F b n && y.F b n), V.bl (x.F b n || y.F b n), V.bl (x.F b n != y.F b n)][j]? = some v ∧ Q v H') := by
    cases t with
    | pl tp => exact .inl ⟨tp, rfl⟩
    | not a => exact .inr (.inl ⟨a, rfl⟩)
    | and x y =>
      obtain ⟨q, r, hp, hx, hy⟩ := hp
      exact .inr (.inr ⟨x, y, "and", q, r, 0, hp, hx, hy, hdep, hok.1, hok.2, by decide +kernel, rfl, fun k h => absurd h (Nat.not_lt_zero _), by decide +kernel, fun H' e => ⟨_, rfl, k_ H' e⟩⟩)
    | or x y =>
      obtain ⟨q, r, hp, hx, hy⟩ := hp
      refine .inr (.inr ⟨x, y, "or", q, r, 1, hp, hx, hy, hdep, hok.1, hok.2, by decide +kernel, rfl, fun k h => ?_, by decide +kernel, fun H' e => ⟨_, rfl, k_ H' e⟩⟩)
      obtain rfl : k = 0 := by omega
      decide +kernel
    | xor x y =>
      obtain ⟨q, r, hp, hx, hy⟩ := hp
      refine .inr (.inr ⟨x, y, "xor", q, r, 2, hp, hx, hy, hdep, hok.1, hok.2, by decide +kernel, rfl, fun k h => ?_, by decide +kernel, fun H' e => ⟨_, rfl, k_ H' e⟩⟩)
      have hm : k = 0 ∨ k = 1 := by omega
      rcases hm with rfl | rfl <;> decide +kernel
  rcases shape with ⟨tp, rfl⟩ | ⟨a, rfl⟩ | ⟨x, y, hd, q, r, j, hp, hx, hy, hdep, okx, oky, hnot, hj, hno, hin, fin⟩
  · have hp : H p = some (.tup tp.vals) := hp
    have hok : tp.ok b := hok
    have k_ : ∀ H', Sm H H' → Q (.bl (tp.F b n)) H' := k_
    obtain ⟨hd, tl, hv⟩ : ∃ hd tl, tp.vals = .str hd :: tl := by cases tp <;> exact ⟨_, _, rfl⟩
    have hnot : hd ≠ "not" := by
      intro z
      subst z
      cases tp <;> (injection hv with z _; injection z with z; revert z; decide +kernel)
    have hin : inV (.str hd) [.str "and", .str "or", .str "xor"] = false := by
      cases tp <;> (injection hv with z _; injection z with z; rw [← z]; decide +kernel)
    have hp0 := hp
    rw [hv] at hp
    refine ⟨_, rfl, p, _, 0, _, rfl, rfl, SqT.of hp, atI_zero _ _, ?_⟩
    refine hd_ne rfl hnot (iteF ?_)
    refine ⟨_, rfl, by show 3 ≤ sizeLine; decide, fun q hq => ⟨q, _, rfl, .inr (SqT.of upd_same), rfl, rfl, _, rfl, ?_⟩⟩
    rw [hin]
    refine iteF ?_
    have e1 : Sm H (upd H q (.tup [.str "and", .str "or", .str "xor"])) := Sm.new hq
    have hp1 := e1.at_ _ _ hp0
    clear hp0
    generalize upd H q (.tup [.str "and", .str "or", .str "xor"]) = H1 at *
    have K1 : ∀ b H', Sm H1 H' → b = tp.F _ n → Q (.bl b) H' := fun b H' e z => by rw [z]; exact k_ H' (e1.trans e)
    cases tp with
      | multiple d =>
        injection hv with z _; injection z with z; subst z
        refine hd_eq rfl (iteT ?_)
        refine ⟨_, rfl, .inl ⟨_, rfl, _, rfl, p, _, 1, _, rfl, rfl, SqT.of hp1, rfl, _, _, rfl, rfl, ?_, rfl, ?_⟩⟩
        · have := hok.1
          omega
        · refine K1 _ H1 (Sm.refl _) ?_
          show decide (V.int ((n : Int).fmod (d : Int)) = V.int 0) = _
          rw [modN_cast, dec_int0]
          rfl
      | rest d r =>
        injection hv with z _; injection z with z; subst z
        refine hd_ne rfl (by decide +kernel) (iteF ?_)
        refine hd_eq rfl (iteT ?_)
        refine ⟨_, rfl, .inl ⟨_, rfl, _, rfl, p, _, 1, _, rfl, rfl, SqT.of hp1, rfl, _, _, rfl, rfl, ?_, _, rfl, p, _, 2, _, rfl, rfl, SqT.of hp1, rfl, rfl, ?_⟩⟩
        · have := hok.1
          omega
        · refine K1 _ H1 (Sm.refl _) ?_
          show decide (V.int ((n : Int).fmod (d : Int)) = V.int (r : Nat)) = _
          rw [modN_cast, dec_int]
          rfl
      | every =>
        injection hv with z _; injection z with z; subst z
        refine hd_ne rfl (by decide +kernel) (iteF ?_)
        refine hd_ne rfl (by decide +kernel) (iteF ?_)
        refine hd_eq rfl (iteT ?_)
        exact K1 _ H1 (Sm.refl _) rfl
      | sum d r =>
        injection hv with z _; injection z with z; subst z
        refine hd_ne rfl (by decide +kernel) (iteF ?_)
        refine hd_ne rfl (by decide +kernel) (iteF ?_)
        refine hd_ne rfl (by decide +kernel) (iteF ?_)
        refine ⟨_, rfl, _, rfl, n, b, rfl, hb, hb2, hn2, fun l H2 hl e2 hl2 => ?_⟩
        refine hd_eq rfl (iteT ?_)
        have hl3 : H2 l = some (.lst (((figs b n).reverse.map fun k : Nat => (k : Int)).map V.int)) := by rw [hl2]; unfold nV; rw [List.map_map]; rfl
        refine ⟨_, rfl, l, _, rfl, SqL.of hl3, .inl ⟨_, rfl, _, rfl, p, _, 1, _, rfl, rfl, SqT.of (e2.at_ _ _ hp1), rfl, _, _, rfl, rfl, ?_, _, rfl, p, _, 2, _, rfl, rfl, SqT.of (e2.at_ _ _ hp1), rfl, rfl, ?_⟩⟩
        · have := hok.1
          omega
        · refine K1 _ H2 e2 ?_
          show decide (V.int ((((figs b n).reverse.map fun k : Nat => (k : Int)).sum).fmod (d : Int)) = V.int (r : Nat)) = _
          rw [figs_sum_cast, modN_cast, dec_int, List.sum_reverse]
          rfl
      | ends g =>
        injection hv with z _; injection z with z; subst z
        refine hd_ne rfl (by decide +kernel) (iteF ?_)
        refine hd_ne rfl (by decide +kernel) (iteF ?_)
        refine hd_ne rfl (by decide +kernel) (iteF ?_)
        refine ⟨_, rfl, _, rfl, n, b, rfl, hb, hb2, hn2, fun l H2 hl e2 hl2 => ?_⟩
        refine hd_ne rfl (by decide +kernel) (iteF ?_)
        refine hd_eq rfl (iteT ?_)
        have hf : figs b n = figs b (n / b) ++ [n % b] := figs_pos hb hn
        rw [hf, List.reverse_append] at hl2
        refine ⟨_, rfl, l, _, 0, .int ((n % b : Nat) : Int), rfl, rfl, SqL.of hl2, atI_zero (V.int ((n % b : Nat) : Int)) _, _, rfl, p, _, 1, _, rfl, rfl, SqT.of (e2.at_ _ _ hp1), rfl, rfl, ?_⟩
        refine K1 _ H2 e2 ?_
        rw [dec_int]
        rfl
      | bears g =>
        injection hv with z _; injection z with z; subst z
        refine hd_ne rfl (by decide +kernel) (iteF ?_)
        refine hd_ne rfl (by decide +kernel) (iteF ?_)
        refine hd_ne rfl (by decide +kernel) (iteF ?_)
        refine ⟨_, rfl, _, rfl, n, b, rfl, hb, hb2, hn2, fun l H2 hl e2 hl2 => ?_⟩
        refine hd_ne rfl (by decide +kernel) (iteF ?_)
        refine hd_ne rfl (by decide +kernel) (iteF ?_)
        refine ⟨_, rfl, p, _, 1, _, rfl, rfl, SqT.of (e2.at_ _ _ hp1), rfl, _, rfl, l, _, rfl, .inl (SqL.of hl2), rfl, flat_nV _, ?_⟩
        refine K1 _ H2 e2 ?_
        show inV (.int (g : Nat)) (nV (figs b n).reverse) = _
        rw [inV_nV]
        show decide (g ∈ (figs b n).reverse) = decide (g ∈ figs b n)
        simp
  · obtain ⟨q, hp, ha⟩ := hp
    refine ⟨_, rfl, p, _, 0, _, rfl, rfl, SqT.of hp, atI_zero _ _, ?_⟩
    refine hd_eq rfl (iteT ?_)
    exact ⟨_, rfl, _, rfl, p, _, 1, _, rfl, rfl, SqT.of hp, rfl, _, rfl, q, a, b, n, rfl, ha, by simp [LT.dep] at hdep; omega, hok, hb, hb2, hn, hn2, fun H' e => ⟨_, rfl, k_ H' e⟩⟩
  · refine ⟨_, rfl, p, _, 0, _, rfl, rfl, SqT.of hp, atI_zero _ _, ?_⟩
    refine hd_ne rfl hnot (iteF ?_)
    refine ⟨_, rfl, by show 3 ≤ sizeLine; decide, fun z hz => ⟨z, _, rfl, .inr (SqT.of upd_same), rfl, rfl, _, rfl, ?_⟩⟩
    rw [hin]
    refine iteT ?_
    have e1 : Sm H (upd H z (.tup [.str "and", .str "or", .str "xor"])) := Sm.new hz
    generalize upd H z (.tup [.str "and", .str "or", .str "xor"]) = H1 at *
    have hp1 := e1.at_ _ _ hp
    refine ⟨_, rfl, _, rfl, p, _, 1, _, rfl, rfl, SqT.of hp1, rfl, _, rfl, q, x, b, n, rfl, hx.kp e1.kp, by omega, okx, hb, hb2, hn, hn2, fun H2 e2 => ?_⟩
    have hp2 := e2.at_ _ _ hp1
    refine ⟨_, rfl, _, rfl, p, _, 2, _, rfl, rfl, SqT.of hp2, rfl, _, rfl, r, y, b, n, rfl, hy.kp (e1.trans e2).kp, by omega, oky, hb, hb2, hn, hn2, fun H3 e3 => ?_⟩
    refine ⟨_, _, rfl, ?_⟩
    refine andv rfl rfl (orv rfl rfl ⟨_, rfl, _, rfl, rfl, ?_⟩)
    rw [nev]
    refine ⟨by show 3 ≤ sizeLine; decide, fun pt hpt => ?_⟩
    have e4 : Sm H3 (upd H3 pt (.tup [V.bl (x.F b n && y.F b n), V.bl (x.F b n || y.F b n), V.bl (x.F b n != y.F b n)])) := Sm.new hpt
    refine ⟨by show 3 ≤ sizeLine; decide, fun pq hpq => ?_⟩
    refine ⟨_, rfl, pq, ["and", "or", "xor"], hd, j, rfl, rfl, SqT.of upd_same, hj, hno, ?_⟩
    have e5 := Sm.new (o := .tup [V.str "and", V.str "or", V.str "xor"]) hpq
    obtain ⟨v, hv, hq⟩ := fin _ (e1.trans (e2.trans (e3.trans (e4.trans e5))))
    exact ⟨pt, _, _, v, rfl, rfl, SqT.of (e5.at_ _ _ upd_same), atI_nat hv, hq⟩
end
end Bz
end
section
set_option Elab.async false
set_option linter.all false
set_option maxRecDepth 100000
set_option maxHeartbeats 4000000
namespace Bz
open PySem PySem.Spec PyProof.Rows L2 LamX NdefX
section
variable {P : Program} {w : World} {K : PySem.W.Frag} {mg : Str → Option Value} {base : Heap}
abbrev N_check_figures : List Str := ["one", "two"]
theorem sc_check_figures : FnScope N_check_figures ["one", "two"] (defScope s_check_figures) := ⟨rfl, rfl, rfl, by decide +kernel, rfl, by decide +kernel, by decide +kernel⟩
theorem hb_check_figures : HB s_check_figures "check_figures" "check_figures" ["one", "two"] := fun _ _ _ _ _ _ us hl => match us, hl with | [_, _], _ => rfl

/-- check_figures(one, two), of one base -/
def spCheckFigures (C : Addr) : Sp := fun vs H Q _ => ∃ (a a' : Addr) (b : Nat) (g g' : Rows) (ms ms' : List V), vs = [.ref a, .ref a'] ∧ GridAt C H a b g ms ∧ GridAt C H a' b g' ms' ∧ Q .non H
theorem g_check_figures {f C : Addr} (c : GrC K C) (D : Df K "check_figures" "check_figures" s_check_figures f) (m : mg "check_figures" = some (.ref f)) : Fn P w K mg base CXN 1 "check_figures" ["one", "two"] (spCheckFigures C) := by
  refine D.fn m sc_check_figures hb_check_figures (fun vs H Q E ⟨a, a', b, g, g', ms, ms', e, _⟩ => by rw [e]; rfl) fun cdv A outer s H vs Q E hr ⟨a, a', b, g, g', ms, ms', e, hg, hg', k_⟩ => ?_
  subst e
  refine ⟨_, (pss_one (ps_if (pt_cmpR (op_ne) (pe_fldK (K := K) rfl (pv 0) rfl) (pe_fldK (K := K) rfl (pv 1) rfl) (nomark _)) (pss_one ps_never) pss_nil)), ?_⟩
  obtain ⟨dg, pgo, pm, h2, _⟩ := hg
  obtain ⟨dg', pgo', pm', h2', _⟩ := hg'
  refine ⟨_, rfl, a, C, dg, _, _, rfl, h2, c.cl, c.nF, gr_F b pgo pm, _, rfl, a', C, dg', _, _, rfl, h2', c.cl, c.nF, gr_F b pgo' pm', rfl, _, rfl, ?_⟩
  exact ifnb (fun h => absurd rfl h) fun _ => k_
/-- a step of the pair -/
def stp2 (g1 g2 : Rows) (o : Option (List Int)) (f : Nat) : List Int := match o with
  | some [h, t] => [(nxt g1 h.toNat f : Int), (nxt g2 t.toNat f : Int)]
  | _ => [(nxt g1 0 f : Int), (nxt g2 0 f : Int)]
def U2 (m1 m2 : Nat) (x : List Int) : Prop := ∃ h t : Nat, x = [(h : Int), (t : Int)] ∧ 1 ≤ h ∧ h ≤ m1 ∧ 1 ≤ t ∧ t ≤ m2
def Ul2 (m1 m2 : Nat) : List (List Int) := (List.range m1).flatMap fun i => (List.range m2).map fun j => [((i + 1 : Nat) : Int), ((j + 1 : Nat) : Int)]
theorem Ul2_len (m1 m2 : Nat) : (Ul2 m1 m2).length = m1 * m2 := by
  unfold Ul2
  rw [List.length_flatMap]
  simp only [List.length_map, List.length_range]
  induction m1 with
  | zero => simp
  | succ k ih => rw [List.range_succ, List.map_append, List.sum_append, ih, Nat.succ_mul]; simp
theorem U2_mem {m1 m2 : Nat} {x : List Int} (h : U2 m1 m2 x) : x ∈ Ul2 m1 m2 := by
  obtain ⟨h, t, rfl, h1, h2, h3, h4⟩ := h
  unfold Ul2
  refine List.mem_flatMap.mpr ⟨h - 1, List.mem_range.mpr (by omega), List.mem_map.mpr ⟨t - 1, List.mem_range.mpr (by omega), ?_⟩⟩
  rw [Nat.sub_add_cancel h1, Nat.sub_add_cancel h3]
theorem stp2_U {b m1 m2 : Nat} {g1 g2 : Rows} (w1 : Wf b m1 g1) (w2 : Wf b m2 g2) (o : Option (List Int)) (f : Nat) (hf : f < b) (hU : ∀ s, o = some s → U2 m1 m2 s) (h0 : o = none → 0 < f) : U2 m1 m2 (stp2 g1 g2 o f) := by
  cases o with
  | none =>
    obtain ⟨a1, a2⟩ := w1.nxt (Nat.zero_le _) hf (.inr (h0 rfl))
    obtain ⟨c1, c2⟩ := w2.nxt (Nat.zero_le _) hf (.inr (h0 rfl))
    exact ⟨_, _, rfl, a1, a2, c1, c2⟩
  | some x =>
    obtain ⟨h, t, rfl, h1, h2, h3, h4⟩ := hU x rfl
    obtain ⟨a1, a2⟩ := w1.nxt h2 hf (.inl h1)
    obtain ⟨c1, c2⟩ := w2.nxt h4 hf (.inl h3)
    exact ⟨_, _, rfl, a1, a2, c1, c2⟩
abbrev N_paired_rows : List Str := ["one", "two", "pairs", "places", "rows", "place", "here", "there", "row", "figure", "later"]
theorem sc_paired_rows : FnScope N_paired_rows ["one", "two"] (defScope s_paired_rows) := ⟨rfl, rfl, rfl, by decide +kernel, rfl, by decide +kernel, by decide +kernel⟩
theorem hb_paired_rows : HB s_paired_rows "paired_rows" "paired_rows" ["one", "two"] := fun _ _ _ _ _ _ us hl => match us, hl with | [_, _], _ => rfl

def spPairedRows (C : Addr) : Sp := fun vs H Q _ => ∃ (a1 a2 : Addr) (b m1 m2 : Nat) (g1 g2 : Rows) (ms1 ms2 : List V), vs = [.ref a1, .ref a2] ∧ GridAt C H a1 b g1 ms1 ∧ GridAt C H a2 b g2 ms2 ∧ Wf b m1 g1 ∧ Wf b m2 g2 ∧ 2 ≤ b ∧ b ≤ 16 ∧ m1 * m2 ≤ 50000 ∧
  ∀ (m : Nat) (p pr pp p0 : Addr) (vals : List V) H', Done b (stp2 g1 g2) m → m ≤ m1 * m2 → H p = none → Sm H H' → H' p = some (.tup [.ref pr, .ref pp]) → RowsAt H' pr (gridOf b (stp2 g1 g2) (m + 1) (seen b (stp2 g1 g2) (m + 1))) → H' pp = some (.lst (.ref p0 :: vals)) → KeysAre kT H' vals (dd (seen b (stp2 g1 g2) (m + 1))) → H' p0 = some (.tup [.int 0, .int 0]) → (∀ x ∈ seen b (stp2 g1 g2) (m + 1), U2 m1 m2 x) → Q (.ref p) H'
theorem g_paired_rows {f C : Addr} (T : Bt mg) (c : GrC K C) (D : Df K "paired_rows" "paired_rows" s_paired_rows f) (m : mg "paired_rows" = some (.ref f)) : Fn P w K mg base CXN 1 "paired_rows" ["one", "two"] (spPairedRows C) := by
  refine D.fn m sc_paired_rows hb_paired_rows (fun vs H Q E ⟨a1, a2, b, m1, m2, g1, g2, ms1, ms2, e, _⟩ => by rw [e]; rfl) fun cdv A outer s H vs Q E hr ⟨a1, a2, b, m1, m2, g1, g2, ms1, ms2, e, hg1, hg2, wf1, wf2, hb, hb2, hmm, k_⟩ => ?_
  subst e
  have hu := hu_of hr
  refine ⟨_, (pss_cons (ps_set (i := 2) sc_paired_rows.nd rfl (Or.inl rfl) (pe_lst (pa_cons (pe_tup (pa_cons pe_int (pa_cons pe_int pa_nil))) pa_nil)))
    (pss_cons (ps_set (i := 3) sc_paired_rows.nd rfl (Or.inl rfl) (kT.new _ _))
    (pss_cons (ps_set (i := 4) sc_paired_rows.nd rfl (Or.inl rfl) (pe_lst pa_nil))
    (pss_cons (ps_set (i := 5) sc_paired_rows.nd rfl (Or.inl rfl) pe_int)
    (pss_cons (ps_while PassesOwn.never (pt_cmpR (op_lt) (pv 5) (pe_callB (call_len_seqK (K := K) rfl) (by rfl) T.len PySem.boot_len (pa_cons (pv 2) pa_nil)) (nomark _)) (pss_cons (ps_asg (pe_ix (ix_listK (K := K) rfl) (pv 2) (pv 5) (fun _ _ => rfl)) (pg_tup rfl (pgs_cons (pg_name (i := 6) sc_paired_rows.nd rfl (Or.inl rfl)) (pgs_cons (pg_name (i := 7) sc_paired_rows.nd rfl (Or.inl rfl)) pgs_nil))))
    (pss_cons (ps_set (i := 8) sc_paired_rows.nd rfl (Or.inl rfl) (pe_lst pa_nil))
    (pss_cons (ps_for PassesOwn.never rfl (pi_range1 rfl T.range (pa_cons (pe_fldK (K := K) rfl (pv 0) rfl) pa_nil)) (pg_name (i := 9) sc_paired_rows.nd rfl (Or.inl rfl)) (pss_one (ps_if (PW.pt (pw_and (pt_cmpR (op_eq) (pv 5) pe_int (nomark _)) (pw_and1 (pt_cmpR (op_eq) (pv 9) pe_int (nomark _))))) (pss_one (ps_expr (pe_bm PySem.F.plainAttrs_list PySem.F.slot_list_append PySem.F.type_list_append mt_append (pv 8) (pa_cons pe_non pa_nil)))) (pss_cons (ps_set (i := 10) sc_paired_rows.nd rfl (Or.inl rfl) (pe_tup (pa_cons (pe_ix (ix_listK (K := K) rfl) (pe_ix (ix_listK (K := K) rfl) (pe_fldK (K := K) rfl (pv 0) rfl) (pv 6) (fun _ _ => rfl)) (pv 9) (fun _ _ => rfl)) (pa_cons (pe_ix (ix_listK (K := K) rfl) (pe_ix (ix_listK (K := K) rfl) (pe_fldK (K := K) rfl (pv 1) rfl) (pv 7) (fun _ _ => rfl)) (pv 9) (fun _ _ => rfl)) pa_nil))))
    (pss_cons (ps_if (pt_cmp (pc_knotin kT (P := P) (w := w) ⟨rfl, rfl⟩ hu (pv 10) (pv 3)) rfl) (pss_cons (ps_kput kT (P := P) (w := w) ⟨rfl, rfl⟩ hu (pv 3) (pv 10) (pe_callB (call_len_seqK (K := K) rfl) (by rfl) T.len PySem.boot_len (pa_cons (pv 2) pa_nil)) rfl)
    (pss_one (ps_expr (pe_bm PySem.F.plainAttrs_list PySem.F.slot_list_append PySem.F.type_list_append mt_append (pv 2) (pa_cons (pv 10) pa_nil))))) pss_nil)
    (pss_one (ps_expr (pe_bm PySem.F.plainAttrs_list PySem.F.slot_list_append PySem.F.type_list_append mt_append (pv 8) (pa_cons (pe_kget kT (P := P) (w := w) ⟨rfl, rfl⟩ hu (pv 3) (pv 10) (fun _ _ => rfl)) pa_nil)))))))))
    (pss_cons (ps_expr (pe_bm PySem.F.plainAttrs_list PySem.F.slot_list_append PySem.F.type_list_append mt_append (pv 4) (pa_cons (pv 8) pa_nil)))
    (pss_one (ps_aug (i := 5) sc_paired_rows.nd rfl (Or.inl rfl) pe_int ip_add)))))))
    (pss_one (ps_ret (pe_tup (pa_cons (pv 4) (pa_cons (pv 2) pa_nil)))))))))), ?_⟩
  obtain ⟨dg1, pg1, pm1, h11, ⟨as1, r11, r12, r13⟩, h13⟩ := id hg1
  obtain ⟨dg2, pg2, pm2, h21, ⟨as2, r21, r22, r23⟩, h23⟩ := id hg2
  have hUl := Ul2_len m1 m2
  refine ⟨by show 2 ≤ sizeLine; decide, fun p0 hp0 => ⟨by show 1 ≤ sizeLine; decide, fun po hpo pd hpd => ⟨Nat.zero_le _, fun pr hpr => ?_⟩⟩⟩
  have s0 : Sm H (upd H p0 (.tup [.int 0, .int 0])) := Sm.new hp0
  have nod : po ≠ pd := fun z => by rw [z, upd_same] at hpd; cases hpd
  have hpd0 : upd H p0 (.tup [.int 0, .int 0]) pd = none := by rw [upd_ne nod.symm] at hpd; exact hpd
  have npr : pr ≠ pd := fun z => by rw [z, upd_same] at hpr; cases hpr
  have hpr1 : upd (upd H p0 (.tup [.int 0, .int 0])) po (.lst [.ref p0]) pr = none := by rw [upd_ne npr] at hpr; exact hpr
  have nor : po ≠ pr := fun z => by rw [z, upd_same] at hpr1; cases hpr1
  have hpr0 : upd H p0 (.tup [.int 0, .int 0]) pr = none := by rw [upd_ne nor.symm] at hpr1; exact hpr1
  have hz0 : upd H p0 (.tup [.int 0, .int 0]) p0 = some (.tup [.int 0, .int 0]) := upd_same
  have g11 := s0.at_ _ _ h11
  have g21 := s0.at_ _ _ h21
  have q11 := s0.at_ _ _ r11
  have q21 := s0.at_ _ _ r21
  have q13 : ∀ (i : Nat) (r : List (Option Nat)), g1[i]? = some r → ∃ q, as1[i]? = some q ∧ upd H p0 (.tup [.int 0, .int 0]) q = some (.lst (r.map oV)) := fun i r h => let ⟨q, x, y⟩ := r13 i r h; ⟨q, x, s0.at_ _ _ y⟩
  have q23 : ∀ (i : Nat) (r : List (Option Nat)), g2[i]? = some r → ∃ q, as2[i]? = some q ∧ upd H p0 (.tup [.int 0, .int 0]) q = some (.lst (r.map oV)) := fun i r h => let ⟨q, x, y⟩ := r23 i r h; ⟨q, x, s0.at_ _ _ y⟩
  have K2 : ∀ (m : Nat) (p pr pp : Addr) (vals : List V) (H' : Hp), Done b (stp2 g1 g2) m → m ≤ m1 * m2 → H p = none → Sm (upd H p0 (.tup [.int 0, .int 0])) H' → H' p = some (.tup [.ref pr, .ref pp]) → RowsAt H' pr (gridOf b (stp2 g1 g2) (m + 1) (seen b (stp2 g1 g2) (m + 1))) → H' pp = some (.lst (.ref p0 :: vals)) → KeysAre kT H' vals (dd (seen b (stp2 g1 g2) (m + 1))) → H' p0 = some (.tup [.int 0, .int 0]) → (∀ x ∈ seen b (stp2 g1 g2) (m + 1), U2 m1 m2 x) → Q (.ref p) H' :=
    fun m p pr pp vals H' h1 h2 h3 h4 h5 h6 h7 h8 h9 h10 => k_ m p pr pp p0 vals H' h1 h2 h3 (s0.trans h4) h5 h6 h7 h8 h9 h10
  have fz : ∀ x, upd H p0 (.tup [.int 0, .int 0]) x = none → H x = none := fun x h => s0.free h
  generalize upd H p0 (.tup [.int 0, .int 0]) = Hz at *
  generalize hstp : stp2 g1 g2 = stp at *
  have hcl : ∀ o f, f < b → (∀ s, o = some s → U2 m1 m2 s) → (o = none → 0 < f) → U2 m1 m2 (stp o f) := by rw [← hstp]; exact fun o f => stp2_U wf1 wf2 o f
  refine wl (fun k σ H' => ∃ (s : Nat) (vals : List V) (as : List Addr) (o6 o7 o8 o9 o10 : Option V), k = m1 * m2 + 1 - s ∧ s ≤ m1 * m2 + 1 ∧ σ = [some (.ref a1), some (.ref a2), some (.ref po), some (.ref pd), some (.ref pr), some (.int s), o6, o7, o8, o9, o10] ∧
      ExSt kT P w Hz b stp (U2 m1 m2) (.ref p0) po pd pr s (seen b stp s) vals as H' ∧ ∀ t, t < s → t ≤ (dd (seen b stp t)).length)
    (m1 * m2 + 1) ⟨0, [], [], none, none, none, none, none, rfl, Nat.zero_le _, rfl, ⟨?_, hpo, hpd0, hpr0, nor, ?_, ?_, ?_, ⟨rfl, fun i x k h => by simp at h⟩, rfl, fun i q h => by simp at h, fun x h => by cases h⟩, fun t h => by omega⟩ ?_ ?_
  · exact ((Sm.new hpo).mut hpd0).mut hpr0
  · rw [upd_ne nor, upd_ne nod, upd_same]
  · rw [upd_ne npr.symm, upd_same]; rfl
  · exact upd_same
  · rintro k σ H1 ⟨s, vals, as, o6, o7, o8, o9, o10, rfl, hs, rfl, X1, hat⟩
    have ddlen : ∀ Q : List (List Int), (∀ x ∈ Q, U2 m1 m2 x) → (dd Q).length ≤ m1 * m2 := fun Q h => by rw [← hUl]; exact nodup_le (dd_nodup Q) fun x hx => U2_mem (h x (mem_dd.mp hx))
    have hl1 := ddlen _ X1.ok
    refine ⟨_, rfl, _, rfl, po, _, rfl, .inl (SqL.of X1.ord), _, _, rfl, rfl, _, rfl, ?_⟩
    refine ifb (fun hlt => ?_) (fun hge => ?_)
    · have hlt2 : s ≤ (dd (seen b stp s)).length := by
        have := X1.keys.1
        rw [List.length_cons] at hlt
        omega
      generalize hprev : prevO (dd (seen b stp s)) s = prev at *
      obtain ⟨pq, h, t, hpv, hpt, hst, hh, ht, hpos, hUp, hn0⟩ : ∃ (pq : Addr) (h t : Nat), (V.ref p0 :: vals)[s]? = some (.ref pq) ∧ H1 pq = some (.tup [.int h, .int t]) ∧ (∀ f, stp prev f = [(nxt g1 h f : Int), (nxt g2 t f : Int)]) ∧ h ≤ m1 ∧ t ≤ m2 ∧ (0 < s → 0 < h ∧ 0 < t) ∧ (∀ x, prev = some x → U2 m1 m2 x) ∧ (prev = none → s = 0) := by
        by_cases h0 : s = 0
        · subst h0
          have e : prev = none := by rw [← hprev]; rfl
          refine ⟨p0, 0, 0, rfl, X1.sm.at_ _ _ hz0, fun f => by rw [e, ← hstp] <;> rfl, Nat.zero_le _, Nat.zero_le _, fun z => absurd z (Nat.lt_irrefl 0), fun x z => (by rw [e] at z; cases z), fun _ => rfl⟩
        · obtain ⟨s1, rfl⟩ : ∃ s1, s = s1 + 1 := ⟨s - 1, by omega⟩
          obtain ⟨x, hx⟩ : ∃ x, (dd (seen b stp (s1 + 1)))[s1]? = some x := ⟨_, List.getElem?_eq_getElem (by omega)⟩
          obtain ⟨v, e1, e2⟩ := X1.keys.at_ hx
          have e : prev = some x := by
            rw [← hprev]
            unfold prevO
            rw [if_neg (by omega)]
            exact hx
          have ux := X1.ok x (mem_dd.mp (List.mem_of_getElem? hx))
          obtain ⟨h, t, ex, h1, h2, h3, h4⟩ := id ux
          obtain ⟨q, ev, eq⟩ := e2
          subst ev
          rw [ex] at eq
          refine ⟨q, h, t, e1, eq, fun f => by rw [e, ex, ← hstp] <;> rfl, h2, h4, fun _ => ⟨h1, h3⟩, fun y z => (by rw [e] at z; rw [← Option.some.inj z]; exact ux), fun z => (by rw [e] at z; cases z)⟩
      refine ⟨_, rfl, _, rfl, po, _, (s : Int), .ref pq, rfl, rfl, SqL.of X1.ord, atI_nat hpv, ?_⟩
      refine ⟨pq, _, rfl, SqT.of hpt, rfl, _, _, rfl, _, _, rfl, rfl, ?_⟩
      refine ⟨Nat.zero_le _, fun pw hpw => ?_⟩
      have hpw0 := X1.sm.free hpw
      have npo : pw ≠ po := (ne_of_none X1.ord hpw).symm
      have npd : pw ≠ pd := (ne_of_none X1.num hpw).symm
      have npr2 : pw ≠ pr := (ne_of_none X1.rws hpw).symm
      have nas : ∀ (i : Nat) (q : Addr), as[i]? = some q → q ≠ pw := fun i q h => ne_of_none (X1.rows i q h).2.2.2 hpw
      have X2 : ExSt kT P w Hz b stp (U2 m1 m2) (.ref p0) po pd pr s (seen b stp s) vals as (upd H1 pw (.lst [])) := X1.other hpw0 (fun ys z => by rw [hpw] at z; cases z) npo npd npr2 nas
      refine ⟨_, rfl, a1, C, dg1, _, _, rfl, X2.sm.at_ _ _ g11, c.cl, c.nF, gr_F b pg1 pm1, (b : Int), rfl, by omega, by omega, for_range (lo := 0) (n := b) (fun f σ H' => ∃ (vals : List V) (o9 o10 : Option V), σ = [some (.ref a1), some (.ref a2), some (.ref po), some (.ref pd), some (.ref pr), some (.int s), some (.int h), some (.int t), some (.ref pw), o9, o10] ∧
        ExSt kT P w Hz b stp (U2 m1 m2) (.ref p0) po pd pr s (upTo b stp s f) vals as H' ∧ H' pw = some (.lst ((rowUp b stp s f).map oV)))
        ⟨vals, o9, o10, rfl, by rw [upTo_zero]; exact X2, upd_same⟩ ?_ ?_⟩
      · rintro f σ H2 hf ⟨vals, o9, o10, rfl, X3, hw3⟩
        have e0 : (0 : Int) + (f : Int) = (f : Int) := Int.zero_add _
        rw [e0]
        have wlen : ((rowUp b stp s f).map oV).length < sizeLine := by
          rw [List.length_map]; unfold rowUp; rw [List.length_map, List.length_range]; exact sz_lt (by omega)
        refine and_eq2 rfl rfl rfl rfl ?_
        by_cases hskip : s = 0 ∧ f = 0
        · obtain ⟨rfl, rfl⟩ := hskip
          refine iteT ?_
          refine ⟨_, rfl, .inl ⟨rfl, _, SqL.of hw3⟩, pw, _, _, rfl, rfl, hw3, wlen, ?_⟩
          refine ⟨vals, _, _, rfl, ?_, ?_⟩
          · rw [upTo_skip b stp ⟨rfl, rfl⟩]
            exact X3.other hpw0 (fun ys z => by rw [hw3] at z; cases z) npo npd npr2 nas
          · rw [upd_same, rowUp_succ, if_pos ⟨rfl, rfl⟩, List.map_append]
            rfl
        · have hsk : (decide (V.int (s : Int) = V.int 0) && decide (V.int (f : Int) = V.int 0)) = false := by
            rw [Bool.and_eq_false_iff]
            by_cases h0 : s = 0
            · right
              rw [decide_eq_false]
              intro z
              injection z with z
              exact hskip ⟨h0, by omega⟩
            · left
              rw [decide_eq_false]
              intro z
              injection z with z
              omega
          rw [hsk]
          refine iteF ?_
          have hp0f : 0 < h ∨ 0 < f := by
            by_cases h0 : 0 < s
            · exact .inl (hpos h0).1
            · exact .inr (Nat.pos_of_ne_zero fun z => hskip ⟨by omega, z⟩)
          have hp0t : 0 < t ∨ 0 < f := by
            by_cases h0 : 0 < s
            · exact .inl (hpos h0).2
            · exact .inr (Nat.pos_of_ne_zero fun z => hskip ⟨by omega, z⟩)
          obtain ⟨r1, er1, ef1⟩ := rows_get (wf1.ent_nxt hh hf hp0f)
          obtain ⟨r2, er2, ef2⟩ := rows_get (wf2.ent_nxt ht hf hp0t)
          obtain ⟨u1, eu1, hu1⟩ := q13 h r1 er1
          obtain ⟨u2, eu2, hu2⟩ := q23 t r2 er2
          have S3 := X3.sm
          refine ⟨_, rfl, a1, C, dg1, _, _, rfl, S3.at_ _ _ g11, c.cl, c.nG, gr_G b pg1 pm1, _, rfl, pg1, _, (h : Int), .ref u1, rfl, rfl, SqL.of (S3.at_ _ _ q11), atI_nat (by rw [List.getElem?_map, eu1] <;> rfl), _, rfl, u1, _, (f : Int), .int (nxt g1 h f : Nat), rfl, rfl, SqL.of (S3.at_ _ _ hu1), atI_nat (by rw [List.getElem?_map, ef1] <;> rfl), ?_⟩
          refine ⟨_, rfl, a2, C, dg2, _, _, rfl, S3.at_ _ _ g21, c.cl, c.nG, gr_G b pg2 pm2, _, rfl, pg2, _, (t : Int), .ref u2, rfl, rfl, SqL.of (S3.at_ _ _ q21), atI_nat (by rw [List.getElem?_map, eu2] <;> rfl), _, rfl, u2, _, (f : Int), .int (nxt g2 t f : Nat), rfl, rfl, SqL.of (S3.at_ _ _ hu2), atI_nat (by rw [List.getElem?_map, ef2] <;> rfl), ?_⟩
          refine ⟨by show 2 ≤ sizeLine; decide, fun pl hpl => ?_⟩
          have e3 : Sm H2 (upd H2 pl (.tup [.int (nxt g1 h f : Nat), .int (nxt g2 t f : Nat)])) := Sm.new hpl
          have hlv : kT.kv (stp prev f) (upd H2 pl (.tup [.int (nxt g1 h f : Nat), .int (nxt g2 t f : Nat)])) (.ref pl) := ⟨pl, rfl, by rw [upd_same, hst f] <;> rfl⟩
          generalize upd H2 pl (.tup [.int (nxt g1 h f : Nat), .int (nxt g2 t f : Nat)]) = H3 at *
          have X4 := X3.later e3
          have hw4 := e3.at_ _ _ hw3
          have hux := hcl prev f hf hUp (fun z => Nat.pos_of_ne_zero fun z2 => hskip ⟨hn0 z, z2⟩)
          generalize hx : stp prev f = x at *
          have ups : upTo b stp s (f + 1) = upTo b stp s f ++ [x] := by rw [upTo_succ b stp hskip, hprev, hx]
          have row1 : (rowUp b stp s (f + 1)).map oV = (rowUp b stp s f).map oV ++ [V.int ((ix (upTo b stp s f ++ [x]) x + 1 : Nat) : Int)] := by
            rw [rowUp_succ, if_neg hskip, hprev, hx, List.map_append]
            obtain ⟨r, hr⟩ := upTo_pre b stp (s := s) (show f + 1 ≤ b by omega)
            rw [ups] at hr
            rw [hr, ix_append (by simp)]
            rfl
          refine ⟨_, rfl, _, rfl, pd, _, x, rfl, X4.num, hlv, _, rfl, ?_⟩
          refine ifv (fun hv => ?_) (fun hv => ?_)
          · have hn : x ∉ dd (upTo b stp s f) := fun z => by
              rw [numsK_some _ (dd_nodup _) z] at hv
              cases hv
            have hl2 := ddlen _ X4.ok
            have hll := X4.keys.1
            refine ⟨_, rfl, po, _, rfl, .inl (SqL.of X4.ord), _, rfl, _, rfl, pd, _, x, rfl, X4.num, hlv, by rw [numsK_len]; exact sz_lt (by omega), ?_⟩
            have A := X4.add hlv hn hux
            rw [← ups] at A
            have ho4 : (upd H3 pd (kT.ho P w pd (putK (numsK 1 (dd (upTo b stp s f))) x (.int ((dd (upTo b stp s f)).length + 1 : Nat))))) po = some (.lst (.ref p0 :: vals)) := by
              rw [upd_ne X4.od]; exact X4.ord
            have elen : (((V.ref p0 :: vals).length : Nat) : Int) = (((dd (upTo b stp s f)).length + 1 : Nat) : Int) := by
              rw [List.length_cons, hll]
            rw [elen]
            refine ⟨_, rfl, .inl ⟨rfl, _, SqL.of ho4⟩, _, rfl, po, _, _, rfl, rfl, ho4, by rw [List.length_cons]; exact sz_lt (by omega), ?_⟩
            have hw5 : (upd (upd H3 pd (kT.ho P w pd (putK (numsK 1 (dd (upTo b stp s f))) x (.int ((dd (upTo b stp s f)).length + 1 : Nat))))) po (.lst (.ref p0 :: (vals ++ [.ref pl])))) pw = some (.lst ((rowUp b stp s f).map oV)) := by
              rw [upd_ne npo, upd_ne npd]; exact hw4
            have A2 := A
            rw [show (V.ref p0 :: vals) ++ [V.ref pl] = V.ref p0 :: (vals ++ [.ref pl]) from rfl]
            have hin : x ∈ dd (upTo b stp s (f + 1)) := by rw [ups]; exact mem_dd.mpr (by simp)
            have kv5 : kT.kv x (upd (upd H3 pd (kT.ho P w pd (putK (numsK 1 (dd (upTo b stp s f))) x (.int ((dd (upTo b stp s f)).length + 1 : Nat))))) po (.lst (.ref p0 :: (vals ++ [.ref pl])))) (.ref pl) := by
              refine kT.keep (fun c ys h => ?_) hlv
              have n1 : c ≠ po := fun z => by rw [z, X4.ord] at h; cases h
              have n2 : c ≠ pd := fun z => by rw [z, X4.num] at h; exact kT.nt _ _ _ _ _ (Option.some.inj h)
              rw [upd_ne n1, upd_ne n2]; exact h
            refine ⟨_, rfl, .inl ⟨rfl, _, SqL.of hw5⟩, _, rfl, _, rfl, pd, _, x, _, rfl, A2.num, kv5, numsK_some _ (dd_nodup _) hin, ?_⟩
            refine ⟨pw, _, _, rfl, rfl, hw5, wlen, ?_⟩
            refine ⟨vals ++ [.ref pl], _, _, rfl, A2.other hpw0 (fun ys z => by rw [hw5] at z; cases z) npo npd npr2 nas, ?_⟩
            rw [upd_same, row1, ← ups]
            rfl
          · have hy : x ∈ dd (upTo b stp s f) := by
              apply Classical.byContradiction
              intro z
              rw [numsK_none z] at hv
              cases hv
            have A := X4.same hy hux
            rw [← ups] at A
            have hin : x ∈ dd (upTo b stp s (f + 1)) := by rw [ups]; exact mem_dd.mpr (by simp)
            refine ⟨_, rfl, .inl ⟨rfl, _, SqL.of hw4⟩, _, rfl, _, rfl, pd, _, x, _, rfl, A.num, hlv, numsK_some _ (dd_nodup _) hin, ?_⟩
            refine ⟨pw, _, _, rfl, rfl, hw4, wlen, ?_⟩
            refine ⟨vals, _, _, rfl, A.other hpw0 (fun ys z => by rw [hw4] at z; cases z) npo npd npr2 nas, ?_⟩
            rw [upd_same, row1, ← ups]
            rfl
      · rintro σ H2 ⟨vals, o9, o10, rfl, X3, hw3⟩
        have wl3 : ((as.map V.ref).length) < sizeLine := by rw [List.length_map, X3.alen]; exact sz_lt (by omega)
        refine ⟨_, rfl, .inl ⟨rfl, _, SqL.of X3.rws⟩, _, rfl, pr, _, _, rfl, rfl, X3.rws, wl3, ?_⟩
        refine ⟨_, rfl, _, _, rfl, rfl, ?_⟩
        rw [upTo_all] at X3
        refine ⟨m1 * m2 + 1 - (s + 1), by omega, s + 1, vals, as ++ [pw], _, _, _, _, _, rfl, by omega, rfl, ?_, fun t ht => ?_⟩
        · refine ⟨X3.sm.mut X3.r0, X3.o0, X3.d0, X3.r0, X3.opr, by rw [upd_ne X3.opr]; exact X3.ord, by rw [upd_ne X3.rd.symm]; exact X3.num, by rw [upd_same, List.map_append]; rfl, X3.keys.keep fun c ys h => ?_, by rw [List.length_append, X3.alen]; rfl, fun i q h => ?_, X3.ok⟩
          · rw [upd_ne fun z => by rw [z, X3.rws] at h; cases h]; exact h
          · by_cases hi : i < as.length
            · rw [List.getElem?_append_left hi] at h
              obtain ⟨a, c, d, g⟩ := X3.rows i q h
              exact ⟨a, c, d, by rw [upd_ne c]; exact g⟩
            · have hi2 : i = s := by
                have := (List.getElem?_eq_some_iff.mp h).1
                rw [List.length_append, X3.alen] at this
                rw [X3.alen] at hi
                simp at this
                omega
              rw [hi2, List.getElem?_append_right (by rw [X3.alen]; exact Nat.le_refl _), X3.alen, Nat.sub_self] at h
              have hq : pw = q := Option.some.inj h
              rw [← hq, hi2]
              exact ⟨npo, npr2, hpw0, by rw [upd_ne npr2]; exact hw3⟩
        · by_cases e : t = s
          · rw [e]; exact hlt2
          · exact hat t (by omega)
    · have hll := X1.keys.1
      rw [List.length_cons] at hge
      have hs1 : 1 ≤ s := by omega
      obtain ⟨m, rfl⟩ : ∃ m, s = m + 1 := ⟨s - 1, by omega⟩
      have hm1 : m ≤ (dd (seen b stp m)).length := hat m (by omega)
      have hm2 : (dd (seen b stp m)).length ≤ (dd (seen b stp (m + 1))).length := (dd_seen_pre b stp (Nat.le_succ m)).length_le
      have hd : Done b stp m := ⟨by omega, fun t ht => hat t (by omega)⟩
      refine ⟨_, rfl, _, rfl, by show 2 ≤ sizeLine; decide, fun pt hpt => ?_⟩
      have e5 : Sm H1 (upd H1 pt (.tup [.ref pr, .ref po])) := Sm.new hpt
      have X5 := X1.later e5
      refine K2 m pt pr po vals _ hd (by omega) (fz _ (X1.sm.free hpt)) X5.sm upd_same ⟨as, X5.rws, by rw [X5.alen]; unfold gridOf; simp, fun i r hr => ?_⟩ X5.ord X5.keys (X5.sm.at_ _ _ hz0) X5.ok
      have hi : i < m + 1 := by
        have := (List.getElem?_eq_some_iff.mp hr).1
        unfold gridOf at this
        simpa using this
      obtain ⟨q, hq⟩ : ∃ q, as[i]? = some q := ⟨_, List.getElem?_eq_getElem (by rw [X5.alen]; exact hi)⟩
      refine ⟨q, hq, ?_⟩
      obtain ⟨_, _, _, g⟩ := X5.rows i q hq
      rw [g, rowUp_done b stp hb hd (by omega)]
      unfold gridOf at hr
      rw [List.getElem?_map, List.getElem?_range hi] at hr
      rw [← Option.some.inj hr]
  · rintro σ H0 Q1 Q2 hq ⟨v, a1, v2, a2, p, ys, a3, a4, i, j, a5, a6, c, a7, a8⟩
    exact ⟨v, a1, v2, a2, p, ys, a3, a4, i, j, a5, a6, c, a7, hq _ _ a8⟩
abbrev N_opposite_grid : List Str := ["grid", "mark"]
theorem sc_opposite_grid : FnScope N_opposite_grid ["grid"] (defScope s_opposite_grid) := ⟨rfl, rfl, rfl, by decide +kernel, rfl, by decide +kernel, by decide +kernel⟩
theorem hb_opposite_grid : HB s_opposite_grid "opposite_grid" "opposite_grid" ["grid"] := fun _ _ _ _ _ _ us hl => match us, hl with | [_], _ => rfl

def spOpposite (C : Addr) : Sp := fun vs H Q _ => ∃ (a : Addr) (b m : Nat) (g : Rows) (ms : List V) (mk : Nat → Bool), vs = [.ref a] ∧ GridAt C H a b g ms ∧ MarksAre kB H ms mk m ∧ m ≤ 50000 ∧
  ∀ p H' ms', H p = none → Sm H H' → GridAt C H' p b g ms' → MarksAre kB H' ms' (fun s => !mk s) m → Q (.ref p) H'
theorem g_opposite_grid {f C : Addr} (T : Bt mg) (c : GrC K C) (D : Df K "opposite_grid" "opposite_grid" s_opposite_grid f) (m : mg "opposite_grid" = some (.ref f)) (G2 : Mkr P w K mg base CXN 1 C "Grid" ["self", "figures", "goals", "marks"] (spGridInit C)) : Fn P w K mg base CXN 3 "opposite_grid" ["grid"] (spOpposite C) := by
  refine D.fn m sc_opposite_grid hb_opposite_grid (fun vs H Q E ⟨a, b, m, g, ms, mk, e, _⟩ => by rw [e]; rfl) fun cdv A outer s H vs Q E hr ⟨a, b, m, g, ms, mk, e, hg, hms, hm, k_⟩ => ?_
  subst e
  obtain ⟨dg, pg, pm, h1, h2, h3⟩ := id hg
  refine ⟨_, (pss_one (ps_ret (pe_mkr G2 hr (by rfl) pass0 (pa_cons (pe_fldK (K := K) rfl (pv 0) rfl) (pa_cons (pe_fldK (K := K) rfl (pv 0) rfl) (pa_cons (pe_lst (pa_cons pe_non (pa_starK (K := K) rfl (pe_lc (own := [("mark", 1)]) (g := gName 1) (tt := tYes) rfl sc_opposite_grid.nd (pi_listK (K := K) rfl (pe_slice (sl_listK (K := K) rfl) (pe_fldK (K := K) rfl (pv 0) rfl) (po_some pe_int) po_none)) (blkOk_by (own := [("mark", 1)]) (N := N_opposite_grid) (sc := defScope s_opposite_grid) (by decide +kernel)) (fun _ _ _ _ _ => (pg_name (i := 1) sc_opposite_grid.nd rfl (Or.inl rfl))) (fun _ _ _ _ _ => pts_nil) (fun _ _ _ _ _ => (pe_not (pv 1)))) pa_nil))) pa_nil)))))), ?_⟩
  refine ⟨_, rfl, a, C, dg, _, _, rfl, h1, c.cl, c.nF, gr_F b pg pm, _, rfl, a, C, dg, _, _, rfl, h1, c.cl, c.nG, gr_G b pg pm, ?_⟩
  refine ⟨_, rfl, a, C, dg, _, _, rfl, h1, c.cl, c.nM, gr_M b pg pm, _, rfl, pm, _, rfl, SqL.of h3, fun ps hps => ?_⟩
  rw [cut_tail]
  have e1 : Sm H (upd H ps (.lst ms)) := Sm.new hps
  refine ⟨ps, rfl, ⟨_, SqL.of upd_same⟩, fun Dl hDl => lcm (K := K) (xs := ms) (fun i y _ => i < m ∧ y = .bl (!mk (i + 1))) hDl (SqL.of upd_same) (by rw [hms.len]; omega) (fun x => rfl) (fun _ _ _ _ _ _ h => h) ?_ ?_⟩
  · intro i v H3 hi e3 _ Qk hQ
    have hi2 : i < m := by
      have := (List.getElem?_eq_some_iff.mp hi).1
      rw [hms.len] at this
      exact this
    obtain ⟨v', q1, q2⟩ := hms.at_ (i + 1) (by omega) (by omega)
    rw [Nat.add_sub_cancel, hi] at q1
    have ev : v = .bl (mk (i + 1)) := by rw [Option.some.inj q1]; exact q2
    subst ev
    exact ⟨_, rfl, _, rfl, hQ _ H3 (Sm.refl _) ⟨hi2, rfl⟩⟩
  intro ys H3 hyl hys hD3 e3
  refine ⟨Dl, ys, rfl, .inr (SqL.of hD3), ?_⟩
  refine ⟨by rw [List.append_nil, List.length_cons, hyl, hms.len]; exact sz_le (by omega), fun pn hpn => ?_⟩
  rw [List.append_nil]
  intro x dx hx hdx hne
  refine ⟨x, dx, b, .ref pg, .ref pn, rfl, upd_same, rfl, ?_⟩
  have e4 : Sm H3 (upd H3 pn (.lst (.non :: ys))) := Sm.new hpn
  have e6 : Sm (upd H3 pn (.lst (.non :: ys))) (upd (upd (upd (upd H3 pn (.lst (.non :: ys))) dx (.own x)) x (.ins C dx [])) x (.ins C dx [("figures", .int b), ("goals", .ref pg), ("marks", .ref pn)])) := ((Sm.new hdx).mut hx).mut hx
  have e14 := e1.trans (e3.trans e4)
  refine k_ x _ ys (e14.free hx) (e14.trans e6) ⟨dx, pg, pn, upd_same, h2.kp (e14.trans e6).kp, e6.at_ _ _ upd_same⟩ ⟨by rw [hyl, hms.len], fun s a1 a2 => ?_⟩
  obtain ⟨v, hv⟩ : ∃ v, ys[s - 1]? = some v := ⟨_, List.getElem?_eq_getElem (by rw [hyl, hms.len]; omega)⟩
  obtain ⟨_, ev⟩ := hys (s - 1) v hv
  rw [Nat.sub_add_cancel a1] at ev
  exact ⟨v, hv, ev⟩
end
end Bz
end
section
set_option Elab.async false
set_option linter.all false
set_option maxRecDepth 100000
set_option maxHeartbeats 2000000
namespace Bz
open PySem PySem.Spec PyProof.Rows L2 LamX NdefX
/-! ### comprehensions with any target -/
theorem pg_tupK {X : Cx} {K : PySem.W.Frag} {es : List Expr} {k : Nat} {t : TGs} {n : Nat} {pos : Pos} (hK : X.K = K) (hc : X.calm = true) (h : PGs X es t) (hn : (assignEach es X.env).length = n := by rfl) (hst : (assignEach es X.env).findIdx? (·.1) = none := by rfl) : PG X (.Tuple es k pos) (gTup K n t) := by
  cases hK; exact pg_tup hc h hn hst
theorem lcmG {K : PySem.W.Frag} {a D : Addr} {xs : List V} {g : TG} {te : TE} {vs : List Nat} {σ : L2.St} {H0 : Hp} {Qd : Hp → Prop} (R : Nat → V → Hp → Prop) (hD : H0 D = none) (hx : SqL K H0 a xs) (hz : xs.length ≤ 1000000)
    (mono : ∀ k y H H', (∃ acc, H D = some (.lst acc)) → (∀ b o, b ≠ D → H b = some o → H' b = some o) → R k y H → R k y H')
    (he : ∀ i x H, xs[i]? = some x → Sm H0 H → (∃ acc, H D = some (.lst acc)) → ∀ Q : VK, (∀ y H', Sm H H' → R i y H' → Q y H') → g x (wipe σ vs) H fun σ2 H2 => wipe σ2 vs = wipe σ vs ∧ te σ2 H2 Q)
    (hd : ∀ ys H, ys.length = xs.length → (∀ (i : Nat) (y : V), ys[i]? = some y → R i y H) → H D = some (.lst ys) → Sm H0 H → Qd H) :
    ∃ W : Nat → Nat → Hp → Prop, (∃ m, W 0 m (upd H0 D (.lst []))) ∧ ∀ i m H, W i m H →
      ((Itl K a).stop i H ∧ Qd H) ∨ ((Itl K a).go i H ∧ ∃ Nx : Hp → Prop, (∀ H', Nx H' → ∃ m', m' < m ∧ W (i + 1) m' H') ∧ ∀ x H', (Itl K a).yld i H x H' → g x (wipe σ vs) H' fun σ2 H2 => wipe σ2 vs = wipe σ vs ∧ tYes σ2 H2 fun b H3 =>
        if b = true then te σ2 H3 fun y H4 => ∃ acc, H4 D = some (.lst acc) ∧ acc.length < sizeLine ∧ Nx (upd H4 D (.lst (acc ++ [y]))) else Nx H3) :=
  lc_list (xs := xs) (LcI H0 D R) (LcI.zero hD) (fun i H _ p => p.1.seq hx) (fun i x H hi p => by
    have hl := (List.getElem?_eq_some_iff.mp hi).1
    unfold tYes
    dsimp only
    have := LcI.turn (te := fun σ1 H Q => g x σ1 H fun σ2 H2 => wipe σ2 vs = wipe σ vs ∧ te σ2 H2 Q) (σ := wipe σ vs) hD (by omega) mono p (he i x H hi)
    exact this) fun H ⟨e, ys, h1, h2, h3⟩ => hd ys H h1 h3 h2 e
end Bz
end
section
set_option Elab.async false
set_option linter.all false
set_option maxRecDepth 100000
set_option maxHeartbeats 4000000
namespace Bz
open PySem PySem.Spec PyProof.Rows L2 LamX NdefX
/-- what is made of the marks of a pair -/
def mk2op (op : Bool → Bool → Bool) (mk1 mk2 : Nat → Bool) : List Int → Bool
  | [h, t] => op (mk1 h.toNat) (mk2 t.toNat)
  | _ => false
theorem stOf_stp2 {b : Nat} {g1 g2 : Rows} (hb : 2 ≤ b) : ∀ n, 0 < n → stOf b (stp2 g1 g2) n = some [(run g1 b n : Int), (run g2 b n : Int)] := by
  intro n
  induction n using Nat.strongRecOn with
  | ind n ih =>
    intro hn
    obtain ⟨e, h1, h2, h3⟩ := split_num hb hn
    have ihq := ih (n / b) h3
    generalize n / b = q at *
    generalize n % b = f at *
    rw [e, stOf_snoc b _ hb h1 h2, run_snoc hb h1 h2, run_snoc hb h1 h2]
    by_cases h : 0 < q
    · rw [ihq h]
      simp [stp2]
    · have h0 : q = 0 := by omega
      subst h0
      rw [run_zero, run_zero]
      rfl
section
variable {P : Program} {w : World} {K : PySem.W.Frag} {mg : Str → Option Value} {base : Heap}
abbrev N_joined_grid : List Str := ["one", "two", "truths", "most", "rows", "pairs", "here", "there", "marks"]
theorem sc_joined_grid : FnScope N_joined_grid ["one", "two", "truths", "most"] (defScope s_joined_grid) := ⟨rfl, rfl, rfl, by decide +kernel, rfl, by decide +kernel, by decide +kernel⟩
theorem hb_joined_grid : HB s_joined_grid "joined_grid" "joined_grid" ["one", "two", "truths", "most"] := fun _ _ _ _ _ _ us hl => match us, hl with | [_, _, _, _], _ => rfl

/-- joined_grid(one, two, truths, most), of one base, where the least machine is small -/
def spJoined (K : PySem.W.Frag) (C : Addr) : Sp := fun vs H Q _ => ∃ (a1 a2 tt : Addr) (b m1 m2 most : Nat) (g1 g2 : Rows) (ms1 ms2 : List V) (mk1 mk2 F1 F2 : Nat → Bool) (op : Bool → Bool → Bool), vs = [.ref a1, .ref a2, .ref tt, .int most] ∧ GridAt C H a1 b g1 ms1 ∧ GridAt C H a2 b g2 ms2 ∧ MarksAre kB H ms1 mk1 m1 ∧ MarksAre kB H ms2 mk2 m2 ∧
  Canon b m1 g1 mk1 F1 ∧ Canon b m2 g2 mk2 F2 ∧ SqT K H tt [.bl (op false false), .bl (op false true), .bl (op true false), .bl (op true true)] ∧ 2 ≤ b ∧ b ≤ 16 ∧ m1 * m2 ≤ 50000 ∧ (∀ m' g' mk', Canon b m' g' mk' (fun n => op (F1 n) (F2 n)) → m' ≤ most) ∧
  ∀ p H' m' g' ms' mk', H p = none → Sm H H' → Canon b m' g' mk' (fun n => op (F1 n) (F2 n)) → GridAt C H' p b g' ms' → MarksAre kB H' ms' mk' m' → Q (.ref p) H'
theorem g_joined_grid {f C : Addr} (T : Bt mg) (c : GrC K C) (D : Df K "joined_grid" "joined_grid" s_joined_grid f) (m : mg "joined_grid" = some (.ref f)) (G1 : Fn P w K mg base CXN 1 "check_figures" ["one", "two"] (spCheckFigures C)) (G2 : Fn P w K mg base CXN 1 "paired_rows" ["one", "two"] (spPairedRows C)) (G3 : Fn P w K mg base CXN 3 "least_grid" ["figures", "rows", "marks", "most"] (spLeast kB C)) :
    Fn P w K mg base CXN 4 "joined_grid" ["one", "two", "truths", "most"] (spJoined K C) := by
  refine D.fn m sc_joined_grid hb_joined_grid (fun vs H Q E ⟨a1, a2, tt, b, m1, m2, most, g1, g2, ms1, ms2, mk1, mk2, F1, F2, op, e, _⟩ => by rw [e]; rfl) fun cdv A outer s H vs Q E hr ⟨a1, a2, tt, b, m1, m2, most, g1, g2, ms1, ms2, mk1, mk2, F1, F2, op, e, hg1, hg2, hk1, hk2, hc1, hc2, htt, hb, hb2, hmm, hmost, k_⟩ => ?_
  subst e
  refine ⟨_, (pss_cons (ps_expr (pe_fn G1 (hr.mono (by decide)) (by rfl) pass0 (pa_cons (pv 0) (pa_cons (pv 1) pa_nil))))
    (pss_cons (ps_asg (pe_fn G2 (hr.mono (by decide)) (by rfl) pass0 (pa_cons (pv 0) (pa_cons (pv 1) pa_nil))) (pg_tup rfl (pgs_cons (pg_name (i := 4) sc_joined_grid.nd rfl (Or.inl rfl)) (pgs_cons (pg_name (i := 5) sc_joined_grid.nd rfl (Or.inl rfl)) pgs_nil))))
    (pss_cons (ps_setLc (i := 8) (own := [("here", 6), ("there", 7)]) (g := gTup K 2 (gCons (gName 6) (gCons (gName 7) gNil))) (tt := tYes) rfl sc_joined_grid.nd rfl rfl (sw_true rfl rfl rfl (by decide +kernel)) (pi_listK (K := K) rfl (pe_slice (sl_listK (K := K) rfl) (pv 5) (po_some pe_int) po_none)) (blkOk_by (own := [("here", 6), ("there", 7)]) (N := N_joined_grid) (sc := defScope s_joined_grid) (by decide +kernel)) (fun _ _ _ _ _ => (pg_tupK rfl rfl (pgs_cons (pg_name (i := 6) sc_joined_grid.nd rfl (Or.inl rfl)) (pgs_cons (pg_name (i := 7) sc_joined_grid.nd rfl (Or.inl rfl)) pgs_nil)))) (fun _ _ _ _ _ => pts_nil) (fun _ _ _ _ _ => (pe_ix (ix_tupK (K := K) rfl) (pv 2) (pe_op op_add (pe_op op_mulW pe_int (pe_callTy call_int1 (by rfl) T.int (by decide +kernel) (pa_cons (pe_ix (ix_listK (K := K) rfl) (pe_fldK (K := K) rfl (pv 0) rfl) (pv 6) (fun _ _ => rfl)) pa_nil))) (pe_callTy call_int1 (by rfl) T.int (by decide +kernel) (pa_cons (pe_ix (ix_listK (K := K) rfl) (pe_fldK (K := K) rfl (pv 1) rfl) (pv 7) (fun _ _ => rfl)) pa_nil))) (fun _ _ => rfl))))
    (pss_one (ps_ret (pe_fn G3 hr (by rfl) pass0 (pa_cons (pe_fldK (K := K) rfl (pv 0) rfl) (pa_cons (pv 4) (pa_cons (pe_lst (pa_cons pe_non (pa_starK (K := K) rfl (pv 8) pa_nil))) (pa_cons (pv 3) pa_nil)))))))))), ?_⟩
  have wf1 := hc1.met.wf
  have wf2 := hc2.met.wf
  refine ⟨_, rfl, _, rfl, a1, a2, b, g1, g2, ms1, ms2, rfl, hg1, hg2, ?_⟩
  refine ⟨_, rfl, _, rfl, a1, a2, b, m1, m2, g1, g2, ms1, ms2, rfl, hg1, hg2, wf1, wf2, hb, hb2, hmm, fun m p pr pp p0 vals H1 hd hm hp e1 hp1 hrows hpp hkeys hp0 hU => ?_⟩
  refine ⟨p, _, rfl, SqT.of hp1, rfl, ?_⟩
  refine ⟨_, _, rfl, _, _, rfl, rfl, ?_⟩
  obtain ⟨sc, _⟩ := done_scan b (stp2 g1 g2) hb hd
  have met := sc.met hb
  have hrun := done_run b (stp2 g1 g2) hb hd
  have hlen := hd.len
  have hddU : ∀ x ∈ dd (seen b (stp2 g1 g2) (m + 1)), U2 m1 m2 x := fun x h => hU x (mem_dd.mp h)
  have hm5 : m ≤ 50000 := by omega
  obtain ⟨hvl, _⟩ := id hkeys
  refine ⟨_, rfl, _, rfl, pp, _, rfl, SqL.of hpp, fun ps hps => ?_⟩
  rw [cut_tail]
  have e2 : Sm H1 (upd H1 ps (.lst vals)) := Sm.new hps
  have e12 := e1.trans e2
  obtain ⟨dg1, pg1, pm1, h11, h12, h13⟩ := id hg1
  obtain ⟨dg2, pg2, pm2, h21, h22, h23⟩ := id hg2
  refine ⟨ps, rfl, ⟨_, SqL.of upd_same⟩, fun Dl hDl => lcmG (K := K) (xs := vals) (fun i y _ => ∃ x, (dd (seen b (stp2 g1 g2) (m + 1)))[i]? = some x ∧ y = .bl (mk2op op mk1 mk2 x)) hDl (SqL.of upd_same) (by rw [hvl, hlen]; omega) (fun _ _ _ _ _ _ h => h) ?_ ?_⟩
  · intro i v H3 hi e3 _ Qk hQ
    have e13 := e12.trans e3
    obtain ⟨x, hx⟩ : ∃ x, (dd (seen b (stp2 g1 g2) (m + 1)))[i]? = some x := ⟨_, List.getElem?_eq_getElem (by rw [← hvl]; exact (List.getElem?_eq_some_iff.mp hi).1)⟩
    obtain ⟨q, ev, hq⟩ : ∃ q, v = .ref q ∧ H1 q = some (.tup (x.map V.int)) := hkeys.2 i v x hi hx
    subst ev
    obtain ⟨h, t, rfl, hh1, hh2, ht1, ht2⟩ := hddU x (List.mem_of_getElem? hx)
    have hq3 := (e2.trans e3).at_ _ _ hq
    obtain ⟨v1, q1, r1⟩ := hk1.at_ h hh1 hh2
    obtain ⟨v2, q2, r2⟩ := hk2.at_ t ht1 ht2
    have r1 : v1 = .bl (mk1 h) := r1
    have r2 : v2 = .bl (mk2 t) := r2
    subst r1 r2
    have q1' : (V.non :: ms1)[h]? = some (.bl (mk1 h)) := by
      obtain ⟨j, rfl⟩ : ∃ j, h = j + 1 := ⟨h - 1, by omega⟩
      exact q1
    have q2' : (V.non :: ms2)[t]? = some (.bl (mk2 t)) := by
      obtain ⟨j, rfl⟩ : ∃ j, t = j + 1 := ⟨t - 1, by omega⟩
      exact q2
    refine ⟨q, _, rfl, SqT.of hq3, rfl, _, _, rfl, _, _, rfl, rfl, rfl, ?_⟩
    refine ⟨_, rfl, _, rfl, a1, C, dg1, _, _, rfl, e13.at_ _ _ h11, c.cl, c.nM, gr_M b pg1 pm1, _, rfl, pm1, _, (h : Int), _, rfl, rfl, SqL.of (e13.at_ _ _ h13), atI_nat q1', .inr ⟨_, rfl, _, _, rfl, rfl, wide_mul (a := 10) (b := 10) (by decide) (by cases mk1 h <;> decide) (by decide) (by decide) (by decide), ?_⟩⟩
    refine ⟨_, rfl, a2, C, dg2, _, _, rfl, e13.at_ _ _ h21, c.cl, c.nM, gr_M b pg2 pm2, _, rfl, pm2, _, (t : Int), _, rfl, rfl, SqL.of (e13.at_ _ _ h23), atI_nat q2', .inr ⟨_, rfl, _, _, rfl, rfl, ?_⟩⟩
    refine ⟨tt, _, _, .bl (op (mk1 h) (mk2 t)), rfl, rfl, e13.kp.st htt, ?_, ?_⟩
    · cases mk1 h <;> cases mk2 t <;> rfl
    · exact hQ _ H3 (Sm.refl _) ⟨_, hx, rfl⟩
  intro ys H3 hyl hys hD3 e3
  have e13 := e12.trans e3
  refine ⟨_, rfl, a1, C, dg1, _, _, rfl, e13.at_ _ _ h11, c.cl, c.nF, gr_F b pg1 pm1, _, rfl, _, rfl, Dl, ys, rfl, .inr (SqL.of hD3), ?_⟩
  refine ⟨by rw [List.append_nil, List.length_cons, hyl, hvl, hlen]; exact sz_le (by omega), fun pn hpn => ?_⟩
  rw [List.append_nil]
  have e4 : Sm H3 (upd H3 pn (.lst (.non :: ys))) := Sm.new hpn
  have e14 := e13.trans e4
  have st2 := stOf_stp2 hb (g1 := g1) (g2 := g2)
  refine ⟨_, rfl, pr, pn, b, m, most, _, ys, (dd (seen b (stp2 g1 g2) (m + 1))).map (mk2op op mk1 mk2), fun s => (((dd (seen b (stp2 g1 g2) (m + 1)))[s - 1]?).map (mk2op op mk1 mk2)).getD false, fun n => op (F1 n) (F2 n), rfl, hrows.kp (e2.trans (e3.trans e4)).kp, upd_same, ⟨by rw [List.length_map, hyl, hvl], fun i y k hy hk => ?_⟩, hb, hb2, met, by rw [List.length_map]; exact hlen, hm5, hmost, fun s h1 h2 => ?_, fun n hn => ?_, ?_⟩
  · obtain ⟨x, hx, ey⟩ := hys i y hy
    rw [List.getElem?_map, hx] at hk
    rw [ey, ← Option.some.inj hk]
    rfl
  · obtain ⟨x, hx⟩ : ∃ x, (dd (seen b (stp2 g1 g2) (m + 1)))[s - 1]? = some x := ⟨_, List.getElem?_eq_getElem (by omega)⟩
    dsimp only
    rw [List.getElem?_map, hx] <;> rfl
  · dsimp only
    rw [hrun n hn, st2 n hn]
    show op (mk1 _) (mk2 _) = _
    rw [Int.toNat_natCast, Int.toNat_natCast, hc1.tells n hn, hc2.tells n hn]
  · intro p' H4 m' g' ms' mk' hp' e5 hc hm' hg hmk
    exact k_ p' H4 m' g' ms' mk' (e14.free hp') (e14.trans e5) hc hg hmk
end
end Bz
end
section
set_option Elab.async false
set_option linter.all false
set_option maxRecDepth 100000
set_option maxHeartbeats 4000000
namespace Bz
open PySem PySem.Spec PyProof.Rows L2 LamX NdefX
section
variable {P : Program} {w : World} {K : PySem.W.Frag} {mg : Str → Option Value} {base : Heap}
theorem kind_new {CG C : Addr} {H H' : Hp} {b : Nat} {F : Nat → Bool} {Q : VK} {p : Addr} {m' : Nat} {g' : Rows} {ms' : List V} {mk' : Nat → Bool} (e : Sm H H') (hc : Canon b m' g' mk' F) (hg : GridAt CG H' p b g' ms') (hms : MarksAre kB H' ms' mk' m') (hm : m' ≤ 200) (hb : 2 ≤ b) (hb2 : b ≤ 16)
    (k_ : ∀ x H', H x = none → Sm H H' → KindAt CG C H' x b F → Q (.ref x) H') : ∀ x dx, H' x = none → H' dx = none → dx ≠ x → spKindInit C [.ref x, .ref p] (upd (upd H' dx (.own x)) x (.ins C dx [])) (fun v H2 => v = .non ∧ Q (.ref x) H2) E0 := fun x dx hx hdx hne => by
  have e2 : Sm H' (upd (upd (upd H' dx (.own x)) x (.ins C dx [])) x (.ins C dx [("grid", .ref p)])) := ((Sm.new hdx).mut hx).mut hx
  exact ⟨x, dx, .ref p, rfl, upd_same, rfl, k_ x _ (e.free hx) (e.trans e2) ⟨dx, p, m', g', ms', mk', upd_same, hg.kp e2.kp, hc, ⟨hms.len, fun s a c => hms.at_ s a c⟩, hm, hb, hb2⟩⟩
/-- a & b and the like, where the least machine is small -/
def spKBin (CG C : Addr) (op : Bool → Bool → Bool) : Sp := fun vs H Q _ => ∃ (a a' : Addr) (b : Nat) (F F' : Nat → Bool), vs = [.ref a, .ref a'] ∧ KindAt CG C H a b F ∧ KindAt CG C H a' b F' ∧ (∀ m' g' mk', Canon b m' g' mk' (fun n => op (F n) (F' n)) → m' ≤ 200) ∧
  ∀ x H', H x = none → Sm H H' → KindAt CG C H' x b (fun n => op (F n) (F' n)) → Q (.ref x) H'
abbrev N_Kind__and_ : List Str := ["self", "other"]
theorem sc_Kind__and_ : FnScope N_Kind__and_ ["self", "other"] (defScope s_Kind__and_) := ⟨rfl, rfl, rfl, by decide +kernel, rfl, by decide +kernel, by decide +kernel⟩
theorem hb_Kind__and_ : HB s_Kind__and_ "__and__" "Kind.__and__" ["self", "other"] := fun _ _ _ _ _ _ us hl => match us, hl with | [_, _], _ => rfl

theorem g_Kand {f C CG tb : Addr} (I : Its mg) (c : KiC K mg CG C) (D : Df K "__and__" "Kind.__and__" s_Kind__and_ f) (m : Meth K C "__and__" f) (hbo : mg "BOTH" = some (.ref tb)) (hT : ∀ H, SqT K H tb [.bl ((· && ·) false false), .bl ((· && ·) false true), .bl ((· && ·) true false), .bl ((· && ·) true true)])
    (G1 : Fn P w K mg base CXN 4 "joined_grid" ["one", "two", "truths", "most"] (spJoined K CG)) (G2 : Mkr P w K mg base CXN 1 C "Kind" ["self", "grid"] (spKindInit C)) : Mt P w K mg base CXN 5 C "__and__" ["self", "other"] (spKBin CG C (· && ·)) := by
  refine D.mt m sc_Kind__and_ hb_Kind__and_ (fun vs H Q E ⟨a, a', b, F, F', e, _⟩ => by rw [e]; rfl) fun cdv A outer s H vs Q E hr ⟨a, a', b, F, F', e, hk, hk', hmost, k_⟩ => ?_
  subst e
  obtain ⟨tms, hms⟩ := I.ms
  refine ⟨_, (pss_one (ps_ret (pe_mkr G2 (hr.mono (by decide)) (by rfl) pass0 (pa_cons (pe_fn G1 hr (by rfl) pass0 (pa_cons (pe_fldK (K := K) rfl (pv 0) rfl) (pa_cons (pe_fldK (K := K) rfl (pv 1) rfl) (pa_cons (pe_glob (v := .ref tb) rfl hbo rfl) (pa_cons (pe_glob (v := .int 200) rfl hms ⟨_, rfl⟩) pa_nil))))) pa_nil)))), ?_⟩
  obtain ⟨dx, pg, m1, g1, ms1, mk1, h1, hg1, hc1, hm1, hl1, hb, hb2⟩ := id hk
  obtain ⟨dx', pg', m2, g2, ms2, mk2, h1', hg2, hc2, hm2, hl2, _, _⟩ := id hk'
  have hmm : m1 * m2 ≤ 50000 := Nat.le_trans (Nat.mul_le_mul hl1 hl2) (by decide)
  refine ⟨_, rfl, a, C, dx, _, _, rfl, h1, c.cl, c.nG, lk_eq _ _ _, _, rfl, a', C, dx', _, _, rfl, h1', c.cl, c.nG, lk_eq _ _ _, pg, pg', tb, b, m1, m2, 200, g1, g2, ms1, ms2, mk1, mk2, F, F', (· && ·), rfl, hg1, hg2, hm1, hm2, hc1, hc2, hT H, hb, hb2, hmm, hmost, fun p H' m' g' ms' mk' hp e hc hg hms => ?_⟩
  exact kind_new e hc hg hms (hmost _ _ _ hc) hb hb2 k_
abbrev N_Kind__or_ : List Str := ["self", "other"]
theorem sc_Kind__or_ : FnScope N_Kind__or_ ["self", "other"] (defScope s_Kind__or_) := ⟨rfl, rfl, rfl, by decide +kernel, rfl, by decide +kernel, by decide +kernel⟩
theorem hb_Kind__or_ : HB s_Kind__or_ "__or__" "Kind.__or__" ["self", "other"] := fun _ _ _ _ _ _ us hl => match us, hl with | [_, _], _ => rfl

theorem g_Kor {f C CG tb : Addr} (I : Its mg) (c : KiC K mg CG C) (D : Df K "__or__" "Kind.__or__" s_Kind__or_ f) (m : Meth K C "__or__" f) (hbo : mg "EITHER" = some (.ref tb)) (hT : ∀ H, SqT K H tb [.bl ((· || ·) false false), .bl ((· || ·) false true), .bl ((· || ·) true false), .bl ((· || ·) true true)])
    (G1 : Fn P w K mg base CXN 4 "joined_grid" ["one", "two", "truths", "most"] (spJoined K CG)) (G2 : Mkr P w K mg base CXN 1 C "Kind" ["self", "grid"] (spKindInit C)) : Mt P w K mg base CXN 5 C "__or__" ["self", "other"] (spKBin CG C (· || ·)) := by
  refine D.mt m sc_Kind__or_ hb_Kind__or_ (fun vs H Q E ⟨a, a', b, F, F', e, _⟩ => by rw [e]; rfl) fun cdv A outer s H vs Q E hr ⟨a, a', b, F, F', e, hk, hk', hmost, k_⟩ => ?_
  subst e
  obtain ⟨tms, hms⟩ := I.ms
  refine ⟨_, (pss_one (ps_ret (pe_mkr G2 (hr.mono (by decide)) (by rfl) pass0 (pa_cons (pe_fn G1 hr (by rfl) pass0 (pa_cons (pe_fldK (K := K) rfl (pv 0) rfl) (pa_cons (pe_fldK (K := K) rfl (pv 1) rfl) (pa_cons (pe_glob (v := .ref tb) rfl hbo rfl) (pa_cons (pe_glob (v := .int 200) rfl hms ⟨_, rfl⟩) pa_nil))))) pa_nil)))), ?_⟩
  obtain ⟨dx, pg, m1, g1, ms1, mk1, h1, hg1, hc1, hm1, hl1, hb, hb2⟩ := id hk
  obtain ⟨dx', pg', m2, g2, ms2, mk2, h1', hg2, hc2, hm2, hl2, _, _⟩ := id hk'
  have hmm : m1 * m2 ≤ 50000 := Nat.le_trans (Nat.mul_le_mul hl1 hl2) (by decide)
  refine ⟨_, rfl, a, C, dx, _, _, rfl, h1, c.cl, c.nG, lk_eq _ _ _, _, rfl, a', C, dx', _, _, rfl, h1', c.cl, c.nG, lk_eq _ _ _, pg, pg', tb, b, m1, m2, 200, g1, g2, ms1, ms2, mk1, mk2, F, F', (· || ·), rfl, hg1, hg2, hm1, hm2, hc1, hc2, hT H, hb, hb2, hmm, hmost, fun p H' m' g' ms' mk' hp e hc hg hms => ?_⟩
  exact kind_new e hc hg hms (hmost _ _ _ hc) hb hb2 k_
abbrev N_Kind__xor_ : List Str := ["self", "other"]
theorem sc_Kind__xor_ : FnScope N_Kind__xor_ ["self", "other"] (defScope s_Kind__xor_) := ⟨rfl, rfl, rfl, by decide +kernel, rfl, by decide +kernel, by decide +kernel⟩
theorem hb_Kind__xor_ : HB s_Kind__xor_ "__xor__" "Kind.__xor__" ["self", "other"] := fun _ _ _ _ _ _ us hl => match us, hl with | [_, _], _ => rfl

theorem g_Kxor {f C CG tb : Addr} (I : Its mg) (c : KiC K mg CG C) (D : Df K "__xor__" "Kind.__xor__" s_Kind__xor_ f) (m : Meth K C "__xor__" f) (hbo : mg "JUST_ONE" = some (.ref tb)) (hT : ∀ H, SqT K H tb [.bl ((· != ·) false false), .bl ((· != ·) false true), .bl ((· != ·) true false), .bl ((· != ·) true true)])
    (G1 : Fn P w K mg base CXN 4 "joined_grid" ["one", "two", "truths", "most"] (spJoined K CG)) (G2 : Mkr P w K mg base CXN 1 C "Kind" ["self", "grid"] (spKindInit C)) : Mt P w K mg base CXN 5 C "__xor__" ["self", "other"] (spKBin CG C (· != ·)) := by
  refine D.mt m sc_Kind__xor_ hb_Kind__xor_ (fun vs H Q E ⟨a, a', b, F, F', e, _⟩ => by rw [e]; rfl) fun cdv A outer s H vs Q E hr ⟨a, a', b, F, F', e, hk, hk', hmost, k_⟩ => ?_
  subst e
  obtain ⟨tms, hms⟩ := I.ms
  refine ⟨_, (pss_one (ps_ret (pe_mkr G2 (hr.mono (by decide)) (by rfl) pass0 (pa_cons (pe_fn G1 hr (by rfl) pass0 (pa_cons (pe_fldK (K := K) rfl (pv 0) rfl) (pa_cons (pe_fldK (K := K) rfl (pv 1) rfl) (pa_cons (pe_glob (v := .ref tb) rfl hbo rfl) (pa_cons (pe_glob (v := .int 200) rfl hms ⟨_, rfl⟩) pa_nil))))) pa_nil)))), ?_⟩
  obtain ⟨dx, pg, m1, g1, ms1, mk1, h1, hg1, hc1, hm1, hl1, hb, hb2⟩ := id hk
  obtain ⟨dx', pg', m2, g2, ms2, mk2, h1', hg2, hc2, hm2, hl2, _, _⟩ := id hk'
  have hmm : m1 * m2 ≤ 50000 := Nat.le_trans (Nat.mul_le_mul hl1 hl2) (by decide)
  refine ⟨_, rfl, a, C, dx, _, _, rfl, h1, c.cl, c.nG, lk_eq _ _ _, _, rfl, a', C, dx', _, _, rfl, h1', c.cl, c.nG, lk_eq _ _ _, pg, pg', tb, b, m1, m2, 200, g1, g2, ms1, ms2, mk1, mk2, F, F', (· != ·), rfl, hg1, hg2, hm1, hm2, hc1, hc2, hT H, hb, hb2, hmm, hmost, fun p H' m' g' ms' mk' hp e hc hg hms => ?_⟩
  exact kind_new e hc hg hms (hmost _ _ _ hc) hb hb2 k_
abbrev N_Kind__invert_ : List Str := ["self"]
theorem sc_Kind__invert_ : FnScope N_Kind__invert_ ["self"] (defScope s_Kind__invert_) := ⟨rfl, rfl, rfl, by decide +kernel, rfl, by decide +kernel, by decide +kernel⟩
theorem hb_Kind__invert_ : HB s_Kind__invert_ "__invert__" "Kind.__invert__" ["self"] := fun _ _ _ _ _ _ us hl => match us, hl with | [_], _ => rfl

def spKInv (CG C : Addr) : Sp := fun vs H Q _ => ∃ (a : Addr) (b : Nat) (F : Nat → Bool), vs = [.ref a] ∧ KindAt CG C H a b F ∧ ∀ x H', H x = none → Sm H H' → KindAt CG C H' x b (fun n => !F n) → Q (.ref x) H'
theorem g_Kinv {f C CG : Addr} (c : KiC K mg CG C) (D : Df K "__invert__" "Kind.__invert__" s_Kind__invert_ f) (m : Meth K C "__invert__" f)
    (G1 : Fn P w K mg base CXN 3 "opposite_grid" ["grid"] (spOpposite CG)) (G2 : Mkr P w K mg base CXN 1 C "Kind" ["self", "grid"] (spKindInit C)) : Mt P w K mg base CXN 4 C "__invert__" ["self"] (spKInv CG C) := by
  refine D.mt m sc_Kind__invert_ hb_Kind__invert_ (fun vs H Q E ⟨a, b, F, e, _⟩ => by rw [e]; rfl) fun cdv A outer s H vs Q E hr ⟨a, b, F, e, hk, k_⟩ => ?_
  subst e
  refine ⟨_, (pss_one (ps_ret (pe_mkr G2 (hr.mono (by decide)) (by rfl) pass0 (pa_cons (pe_fn G1 hr (by rfl) pass0 (pa_cons (pe_fldK (K := K) rfl (pv 0) rfl) pa_nil)) pa_nil)))), ?_⟩
  obtain ⟨dx, pg, m1, g1, ms1, mk1, h1, hg1, hc1, hm1, hl1, hb, hb2⟩ := id hk
  refine ⟨_, rfl, a, C, dx, _, _, rfl, h1, c.cl, c.nG, lk_eq _ _ _, pg, b, m1, g1, ms1, mk1, rfl, hg1, ⟨hm1.len, fun s a c => hm1.at_ s a c⟩, by omega, fun p H' ms' hp e hg hms => ?_⟩
  exact kind_new e hc1.neg hg hms hl1 hb hb2 k_
end
end Bz
end
section
set_option Elab.async false
set_option linter.all false
set_option maxRecDepth 100000
set_option maxHeartbeats 4000000
namespace Bz
open PySem PySem.Spec PyProof.Rows L2 LamX NdefX
/-- that every machine on the way is small enough -/
def LT.Few (b : Nat) : LT → Prop
  | .pl _ => True
  | .not a => a.Few b
  | .and x y => x.Few b ∧ y.Few b ∧ ∀ m' g' mk', Canon b m' g' mk' (LT.F b (.and x y)) → m' ≤ 200
  | .or x y => x.Few b ∧ y.Few b ∧ ∀ m' g' mk', Canon b m' g' mk' (LT.F b (.or x y)) → m' ≤ 200
  | .xor x y => x.Few b ∧ y.Few b ∧ ∀ m' g' mk', Canon b m' g' mk' (LT.F b (.xor x y)) → m' ≤ 200
theorem LT.inP.small {q : Pool} {b : Nat} (G : q.Good b) (hb : 2 ≤ b) {t : LT} (h : t.inP q) : ∀ m' g' mk', Canon b m' g' mk' (t.F b) → m' ≤ 200 := Pool.small G hb fun n k e => LT.F_φ e h
theorem LT.inP.few {q : Pool} {b : Nat} (G : q.Good b) (hb : 2 ≤ b) : ∀ {t : LT}, t.inP q → t.Few b
  | .pl _, _ => True.intro
  | .not a, h => LT.inP.few (t := a) G hb h
  | .and x y, h => ⟨LT.inP.few G hb h.1, LT.inP.few G hb h.2, LT.inP.small (t := .and x y) G hb h⟩
  | .or x y, h => ⟨LT.inP.few G hb h.1, LT.inP.few G hb h.2, LT.inP.small (t := .or x y) G hb h⟩
  | .xor x y, h => ⟨LT.inP.few G hb h.1, LT.inP.few G hb h.2, LT.inP.small (t := .xor x y) G hb h⟩
theorem spKBin_mono {CG C : Addr} {op : Bool → Bool → Bool} {vs : List V} {H : Hp} {Q Q' : VK} {E : XK} (h : ∀ v H', Q v H' → Q' v H') (x : spKBin CG C op vs H Q E) : spKBin CG C op vs H Q' E := by
  obtain ⟨a, a', b, F, F', e, h1, h2, h3, h4⟩ := x
  exact ⟨a, a', b, F, F', e, h1, h2, h3, fun x H' p q r => h _ _ (h4 x H' p q r)⟩
section
variable {P : Program} {w : World} {K : PySem.W.Frag} {mg : Str → Option Value} {base : Heap}
/-- the operators of Kinds, by their promises -/
structure KOps (P : Program) (w : World) (K : PySem.W.Frag) (mg : Str → Option Value) (base : Heap) (CG C : Addr) : Prop where
  sf : PySem.W.selfFirst K C = true
  and : Mt P w K mg base CXN 5 C "__and__" ["self", "other"] (spKBin CG C (· && ·))
  or : Mt P w K mg base CXN 5 C "__or__" ["self", "other"] (spKBin CG C (· || ·))
  xor : Mt P w K mg base CXN 5 C "__xor__" ["self", "other"] (spKBin CG C (· != ·))
  inv : Mt P w K mg base CXN 4 C "__invert__" ["self"] (spKInv CG C)
theorem KindAt.ins {CG C : Addr} {H : Hp} {a : Addr} {b : Nat} {F : Nat → Bool} (h : KindAt CG C H a b F) : ∃ dx fs, H a = some (.ins C dx fs) := by
  obtain ⟨dx, pg, _, _, _, _, h1, _⟩ := h
  exact ⟨dx, _, h1⟩
/-- an operator's reading, both sides told -/
theorem bin_at {CG C : Addr} {op : Bool → Bool → Bool} {H : Hp} {x y : Addr} {b : Nat} {F F' : Nat → Bool} {Q : VK} (hx : KindAt CG C H x b F) (hy : KindAt CG C H y b F') (hm : ∀ m' g' mk', Canon b m' g' mk' (fun n => op (F n) (F' n)) → m' ≤ 200) (k_ : ∀ z H', H z = none → Sm H H' → KindAt CG C H' z b (fun n => op (F n) (F' n)) → Q (.ref z) H') :
    rOwnBin C (spKBin CG C op) E0 (.ref x) (.ref y) H Q := by
  obtain ⟨dx, fs, h1⟩ := hx.ins
  obtain ⟨dy, gs, h2⟩ := hy.ins
  exact ⟨x, y, dx, fs, dy, gs, rfl, rfl, h1, h2, x, y, b, F, F', rfl, hx, hy, hm, fun z H' p q r => ⟨z, rfl, k_ z H' p q r⟩⟩
theorem inv_at {CG C : Addr} {H : Hp} {x : Addr} {b : Nat} {F : Nat → Bool} {Q : VK} (hx : KindAt CG C H x b F) (k_ : ∀ z H', H z = none → Sm H H' → KindAt CG C H' z b (fun n => !F n) → Q (.ref z) H') : rOwnUn C (spKInv CG C) E0 (.ref x) H Q := by
  obtain ⟨dx, fs, h1⟩ := hx.ins
  exact ⟨x, dx, fs, rfl, h1, x, b, F, rfl, hx, k_⟩
abbrev N_law_kind : List Str := ["root", "test", "head", "one", "two"]
theorem sc_law_kind : FnScope N_law_kind ["root", "test"] (defScope s_law_kind) := ⟨rfl, rfl, rfl, by decide +kernel, rfl, by decide +kernel, by decide +kernel⟩
theorem hb_law_kind : HB s_law_kind "_law_kind" "_law_kind" ["root", "test"] := fun _ _ _ _ _ _ us hl => match us, hl with | [_, _], _ => rfl

def spLKind (CG C : Addr) (TT' : List NTab) (d : Nat) : Sp := fun vs H Q _ => ∃ (p : Addr) (t : LT) (b : Nat), vs = [.int b, .ref p] ∧ LT.At H p t ∧ t.dep ≤ d ∧ t.ok b ∧ t.Few b ∧ 2 ≤ b ∧ b ≤ 16 ∧ TabsN TT' H ∧
  ∀ x H', H x = none → Kx H H' → TabsN TT' H' → KindAt CG C H' x b (t.F b) → Q (.ref x) H'
theorem g_law_kind {f CG C : Addr} {TT' : List NTab} (T : Bt mg) (D : Df K "_law_kind" "_law_kind" s_law_kind f) (m : mg "_law_kind" = some (.ref f)) (O : KOps P w K mg base CG C)
    (G_multiple : Fn P w K mg base CXN 6 "multiple" ["base", "number"] (spMultiple CG C TT')) (G_rest : Fn P w K mg base CXN 5 "rest" ["base", "number", "rest"] (spRest CG C TT')) (G_figure_sum : Fn P w K mg base CXN 5 "figure_sum" ["base", "number", "rest"] (spSum CG C TT'))
    (G_bears : Fn P w K mg base CXN 5 "bears" ["base", "figure"] (spFig CG C TT' fun b g n => decide (g ∈ figs b n))) (G_ends : Fn P w K mg base CXN 5 "ends" ["base", "figure"] (spFig CG C TT' fun b g n => decide (n % b = g))) (G_every : Fn P w K mg base CXN 5 "every" ["base"] (spEvery CG C TT')) (d : Nat) :
    Fn P w K mg base CXN (7 + d) "_law_kind" ["root", "test"] (spLKind CG C TT' d) := by
  induction d with
  | zero =>
    refine D.fn (k := 6) m sc_law_kind hb_law_kind (fun vs H Q E ⟨p, t, b, e, _⟩ => by rw [e]; rfl) fun cdv A outer s H vs Q E hr ⟨p, t, b, e, hp, hd, _⟩ => ?_
    have := t.dep_pos
    omega
  | succ d Gr =>
  refine D.fn (k := 7 + d) m sc_law_kind hb_law_kind (fun vs H Q E ⟨p, t, b, e, _⟩ => by rw [e]; rfl) fun cdv A outer s H vs Q E hr ⟨p, t, b, e, hp, hdep, hok, hfew, h1, h2, hT, k_⟩ => ?_
  subst e
  refine ⟨_, (pss_cons (ps_set (i := 2) sc_law_kind.nd rfl (Or.inl rfl) (pe_ix (ix_tupK (K := K) rfl) (pv 1) pe_int (fun _ _ => rfl)))
    (pss_cons (ps_if (pt_cmpR (op_eq) (pv 2) pe_str (nomark _)) (pss_one (ps_ret (pe_un (un_ownInv O.inv (hr.mono (by omega)) pass0) (pe_fn Gr hr (by rfl) pass0 (pa_cons (pv 0) (pa_cons (pe_ix (ix_tupK (K := K) rfl) (pv 1) pe_int (fun _ _ => rfl)) pa_nil)))))) pss_nil)
    (pss_cons (ps_if (pt_cmpR (op_in_seqK (K := K) rfl) (pv 2) (pe_tup (pa_cons pe_str (pa_cons pe_str (pa_cons pe_str pa_nil)))) (by rfl)) (pss_cons (ps_par (i := 3) (j := 4) (by rfl) sc_law_kind.nd rfl rfl (by decide) rfl rfl (pa_cons (pe_fn Gr hr (by rfl) pass0 (pa_cons (pv 0) (pa_cons (pe_ix (ix_tupK (K := K) rfl) (pv 1) pe_int (fun _ _ => rfl)) pa_nil))) (pa_cons (pe_fn Gr hr (by rfl) pass0 (pa_cons (pv 0) (pa_cons (pe_ix (ix_tupK (K := K) rfl) (pv 1) pe_int (fun _ _ => rfl)) pa_nil))) pa_nil)) (by rfl))
    (pss_cons (ps_if (pt_cmpR (op_eq) (pv 2) pe_str (nomark _)) (pss_one (ps_ret (pe_op (op_ownBin (op := .BitAnd) O.sf O.and (hr.mono (by omega)) pass0) (pv 3) (pv 4)))) pss_nil)
    (pss_one (ps_ret (pe_ifExp (pt_cmpR (op_eq) (pv 2) pe_str (nomark _)) (pe_op (op_ownBin (op := .BitOr) O.sf O.or (hr.mono (by omega)) pass0) (pv 3) (pv 4)) (pe_op (op_ownBin (op := .BitXor) O.sf O.xor (hr.mono (by omega)) pass0) (pv 3) (pv 4))))))) pss_nil)
    (pss_cons (ps_if (pt_cmpR (op_eq) (pv 2) pe_str (nomark _)) (pss_one (ps_ret (pe_fn G_multiple (hr.mono (by omega)) (by rfl) pass0 (pa_cons (pv 0) (pa_cons (pe_ix (ix_tupK (K := K) rfl) (pv 1) pe_int (fun _ _ => rfl)) pa_nil))))) pss_nil)
    (pss_cons (ps_if (pt_cmpR (op_eq) (pv 2) pe_str (nomark _)) (pss_one (ps_ret (pe_fn G_rest (hr.mono (by omega)) (by rfl) pass0 (pa_cons (pv 0) (pa_cons (pe_ix (ix_tupK (K := K) rfl) (pv 1) pe_int (fun _ _ => rfl)) (pa_cons (pe_ix (ix_tupK (K := K) rfl) (pv 1) pe_int (fun _ _ => rfl)) pa_nil)))))) pss_nil)
    (pss_cons (ps_if (pt_cmpR (op_eq) (pv 2) pe_str (nomark _)) (pss_one (ps_ret (pe_fn G_figure_sum (hr.mono (by omega)) (by rfl) pass0 (pa_cons (pv 0) (pa_cons (pe_ix (ix_tupK (K := K) rfl) (pv 1) pe_int (fun _ _ => rfl)) (pa_cons (pe_ix (ix_tupK (K := K) rfl) (pv 1) pe_int (fun _ _ => rfl)) pa_nil)))))) pss_nil)
    (pss_cons (ps_if (pt_cmpR (op_eq) (pv 2) pe_str (nomark _)) (pss_one (ps_ret (pe_fn G_every (hr.mono (by omega)) (by rfl) pass0 (pa_cons (pv 0) pa_nil)))) pss_nil)
    (pss_one (ps_ret (pe_ifExp (pt_cmpR (op_eq) (pv 2) pe_str (nomark _)) (pe_fn G_ends (hr.mono (by omega)) (by rfl) pass0 (pa_cons (pv 0) (pa_cons (pe_ix (ix_tupK (K := K) rfl) (pv 1) pe_int (fun _ _ => rfl)) pa_nil))) (pe_fn G_bears (hr.mono (by omega)) (by rfl) pass0 (pa_cons (pv 0) (pa_cons (pe_ix (ix_tupK (K := K) rfl) (pv 1) pe_int (fun _ _ => rfl)) pa_nil))))))))))))), ?_⟩
  have shape : (∃ tp, t = .pl tp) ∨ (∃ a, t = .not a) ∨ ∃ (x y : LT) (hd : Str) (q r : Addr) (op : Bool → Bool → Bool), H p = some (.tup [.str hd, .ref q, .ref r]) ∧ LT.At H q x ∧ LT.At H r y ∧ max x.dep y.dep + 1 ≤ d + 1 ∧ x.ok b ∧ y.ok b ∧ x.Few b ∧ y.Few b ∧ hd ≠ "not" ∧ inV (.str hd) [.str "and", .str "or", .str "xor"] = true ∧
      (hd = "and" ∧ op = (· && ·) ∨ hd = "or" ∧ op = (· || ·) ∨ hd = "xor" ∧ op = (· != ·)) ∧ (t.F b = fun n => op (x.F b n) (y.F b n)) ∧ ∀ m' g' mk', Canon b m' g' mk' (fun n => op (x.F b n) (y.F b n)) → m' ≤ 200 := by
    cases t with
    | pl tp => exact .inl ⟨tp, rfl⟩
    | not a => exact .inr (.inl ⟨a, rfl⟩)
    | and x y =>
      obtain ⟨q, r, hp, hx, hy⟩ := hp
      exact .inr (.inr ⟨x, y, "and", q, r, (· && ·), hp, hx, hy, hdep, hok.1, hok.2, hfew.1, hfew.2.1, by decide +kernel, by decide +kernel, .inl ⟨rfl, rfl⟩, rfl, hfew.2.2⟩)
    | or x y =>
      obtain ⟨q, r, hp, hx, hy⟩ := hp
      exact .inr (.inr ⟨x, y, "or", q, r, (· || ·), hp, hx, hy, hdep, hok.1, hok.2, hfew.1, hfew.2.1, by decide +kernel, by decide +kernel, .inr (.inl ⟨rfl, rfl⟩), rfl, hfew.2.2⟩)
    | xor x y =>
      obtain ⟨q, r, hp, hx, hy⟩ := hp
      exact .inr (.inr ⟨x, y, "xor", q, r, (· != ·), hp, hx, hy, hdep, hok.1, hok.2, hfew.1, hfew.2.1, by decide +kernel, by decide +kernel, .inr (.inr ⟨rfl, rfl⟩), rfl, hfew.2.2⟩)
  rcases shape with ⟨tp, rfl⟩ | ⟨a, rfl⟩ | ⟨x, y, hd, q, r, op, hp, hx, hy, hdep, okx, oky, fewx, fewy, hnot, hin, hop, hF, hsm⟩
  · have hp : H p = some (.tup tp.vals) := hp
    have hok : tp.ok b := hok
    have k_ : ∀ x H', H x = none → Kx H H' → TabsN TT' H' → KindAt CG C H' x b (tp.F b) → Q (.ref x) H' := k_
    obtain ⟨hd, tl, hv⟩ : ∃ hd tl, tp.vals = .str hd :: tl := by cases tp <;> exact ⟨_, _, rfl⟩
    have hnot : hd ≠ "not" := by
      intro z
      subst z
      cases tp <;> (injection hv with z _; injection z with z; revert z; decide +kernel)
    have hin : inV (.str hd) [.str "and", .str "or", .str "xor"] = false := by
      cases tp <;> (injection hv with z _; injection z with z; rw [← z]; decide +kernel)
    have hp0 := hp
    rw [hv] at hp
    refine ⟨_, rfl, p, _, 0, _, rfl, rfl, SqT.of hp, atI_zero _ _, ?_⟩
    refine hd_ne rfl hnot (iteF ?_)
    refine ⟨_, rfl, by show 3 ≤ sizeLine; decide, fun q hq => ⟨q, _, rfl, .inr (SqT.of upd_same), rfl, rfl, _, rfl, ?_⟩⟩
    rw [hin]
    refine iteF ?_
    have e1 : Sm H (upd H q (.tup [.str "and", .str "or", .str "xor"])) := Sm.new hq
    have hp1 := e1.at_ _ _ hp0
    have hT1 : TabsN TT' _ := hT.ext e1.at_
    clear hp0
    generalize upd H q (.tup [.str "and", .str "or", .str "xor"]) = H1 at *
    have K1 : ∀ x H', H1 x = none → Kx H1 H' → TabsN TT' H' → KindAt CG C H' x b (tp.F b) → Q (.ref x) H' := fun x H' n e t k => k_ x H' (e1.free n) (e1.kx.trans e) t k
    cases tp with
    | multiple d =>
      injection hv with z _; injection z with z; subst z
      refine hd_eq rfl (iteT ?_)
      exact ⟨_, rfl, _, rfl, p, _, 1, _, rfl, rfl, SqT.of hp1, rfl, b, d, rfl, h1, h2, hok.1, hok.2, hT1, K1⟩
    | rest d r =>
      injection hv with z _; injection z with z; subst z
      refine hd_ne rfl (by decide +kernel) (iteF ?_)
      refine hd_eq rfl (iteT ?_)
      exact ⟨_, rfl, _, rfl, p, _, 1, _, rfl, rfl, SqT.of hp1, rfl, _, rfl, p, _, 2, _, rfl, rfl, SqT.of hp1, rfl, b, d, r, rfl, h1, h2, hok.1, hok.2.1, hok.2.2, hT1, K1⟩
    | sum d r =>
      injection hv with z _; injection z with z; subst z
      refine hd_ne rfl (by decide +kernel) (iteF ?_)
      refine hd_ne rfl (by decide +kernel) (iteF ?_)
      refine hd_eq rfl (iteT ?_)
      exact ⟨_, rfl, _, rfl, p, _, 1, _, rfl, rfl, SqT.of hp1, rfl, _, rfl, p, _, 2, _, rfl, rfl, SqT.of hp1, rfl, b, d, r, rfl, h1, h2, hok.1, hok.2.1, hok.2.2, hT1, K1⟩
    | every =>
      injection hv with z _; injection z with z; subst z
      refine hd_ne rfl (by decide +kernel) (iteF ?_)
      refine hd_ne rfl (by decide +kernel) (iteF ?_)
      refine hd_ne rfl (by decide +kernel) (iteF ?_)
      refine hd_eq rfl (iteT ?_)
      exact ⟨_, rfl, b, rfl, h1, h2, hT1, K1⟩
    | ends g =>
      injection hv with z _; injection z with z; subst z
      refine hd_ne rfl (by decide +kernel) (iteF ?_)
      refine hd_ne rfl (by decide +kernel) (iteF ?_)
      refine hd_ne rfl (by decide +kernel) (iteF ?_)
      refine hd_ne rfl (by decide +kernel) (iteF ?_)
      refine hd_eq rfl (iteT ?_)
      exact ⟨_, rfl, _, rfl, p, _, 1, _, rfl, rfl, SqT.of hp1, rfl, b, g, rfl, h1, h2, hok, hT1, K1⟩
    | bears g =>
      injection hv with z _; injection z with z; subst z
      refine hd_ne rfl (by decide +kernel) (iteF ?_)
      refine hd_ne rfl (by decide +kernel) (iteF ?_)
      refine hd_ne rfl (by decide +kernel) (iteF ?_)
      refine hd_ne rfl (by decide +kernel) (iteF ?_)
      refine hd_ne rfl (by decide +kernel) (iteF ?_)
      exact ⟨_, rfl, _, rfl, p, _, 1, _, rfl, rfl, SqT.of hp1, rfl, b, g, rfl, h1, h2, hok, hT1, K1⟩
  · obtain ⟨q, hp, ha⟩ := hp
    refine ⟨_, rfl, p, _, 0, _, rfl, rfl, SqT.of hp, atI_zero _ _, ?_⟩
    refine hd_eq rfl (iteT ?_)
    refine ⟨_, rfl, _, rfl, p, _, 1, _, rfl, rfl, SqT.of hp, rfl, q, a, b, rfl, ha, by simp [LT.dep] at hdep; omega, hok, hfew, h1, h2, hT, fun x H1 hx e1 hT1 kx => ?_⟩
    exact inv_at kx fun z H2 hz e2 kz => k_ z H2 (e1.dom _ hz) (e1.trans e2.kx) (hT1.ext e2.at_) kz
  · refine ⟨_, rfl, p, _, 0, _, rfl, rfl, SqT.of hp, atI_zero _ _, ?_⟩
    refine hd_ne rfl hnot (iteF ?_)
    refine ⟨_, rfl, by show 3 ≤ sizeLine; decide, fun z hz => ⟨z, _, rfl, .inr (SqT.of upd_same), rfl, rfl, _, rfl, ?_⟩⟩
    rw [hin]
    refine iteT ?_
    have e1 : Sm H (upd H z (.tup [.str "and", .str "or", .str "xor"])) := Sm.new hz
    have hT1 : TabsN TT' _ := hT.ext e1.at_
    generalize upd H z (.tup [.str "and", .str "or", .str "xor"]) = H1 at *
    have hp1 := e1.at_ _ _ hp
    refine ⟨_, rfl, _, rfl, p, _, 1, _, rfl, rfl, SqT.of hp1, rfl, q, x, b, rfl, hx.kp e1.kp, by omega, okx, fewx, h1, h2, hT1, fun xa H2 hxa e2 hT2 kx => ?_⟩
    have e12 := e1.kx.trans e2
    have hp2 := e12.kp.tup hp
    refine ⟨_, rfl, _, rfl, p, _, 2, _, rfl, rfl, SqT.of hp2, rfl, r, y, b, rfl, hy.kp e12.kp, by omega, oky, fewy, h1, h2, hT2, fun ya H3 hya e3 hT3 ky => ?_⟩
    have e13 := e12.trans e3
    have fin : ∀ z H', H3 z = none → Sm H3 H' → KindAt CG C H' z b (fun n => op (x.F b n) (y.F b n)) → Q (.ref z) H' := fun z H' hz e kz => k_ z H' (e13.dom _ hz) (e13.trans e.kx) (hT3.ext e.at_) (by rw [hF]; exact kz)
    refine ⟨_, _, rfl, ?_⟩
    rcases hop with ⟨rfl, rfl⟩ | ⟨rfl, rfl⟩ | ⟨rfl, rfl⟩
    · refine hd_eq rfl (iteT ?_)
      exact ⟨_, rfl, _, rfl, bin_at (kx.kp e3.kp) ky hsm fin⟩
    · refine hd_ne rfl (by decide +kernel) (iteF ?_)
      refine hd_eq rfl (iteT ?_)
      exact ⟨_, rfl, _, rfl, bin_at (kx.kp e3.kp) ky hsm fin⟩
    · refine hd_ne rfl (by decide +kernel) (iteF ?_)
      refine hd_ne rfl (by decide +kernel) (iteF ?_)
      exact ⟨_, rfl, _, rfl, bin_at (kx.kp e3.kp) ky hsm fin⟩
end
end Bz
end
section
set_option maxHeartbeats 400000
set_option autoImplicit false
set_option linter.unusedVariables false
namespace Bz
/-! ### stretches of numbers -/
abbrev Row2 := List (List (Option Nat))
/-- what the numbers of a stretch come to: a level, a state -/
def lev {α : Type} (g : Row2) (b : Nat) (om : Nat → α) (jn : α → α → α) : Nat → Nat → α
  | 0, s => om s
  | l + 1, s => (List.range (b - 1)).foldl (fun acc f => jn acc (lev g b om jn l (nxt g s (f + 1)))) (lev g b om jn l (nxt g s 0))
/-- how many numbers from 1 on, below one, are told -/
def cb (F : Nat → Bool) : Nat → Nat
  | 0 => 0
  | n + 1 => cb F n + if 0 < n ∧ F n = true then 1 else 0
theorem cb_mono (F : Nat → Bool) {n m : Nat} (h : n ≤ m) : cb F n ≤ cb F m := by
  induction h with
  | refl => exact Nat.le_refl _
  | step _ ih => exact Nat.le_trans ih (Nat.le_add_right _ _)
theorem cb_le (F : Nat → Bool) (n : Nat) : cb F n ≤ n := by
  induction n with
  | zero => exact Nat.le_refl _
  | succ n ih => unfold cb; split <;> omega
/-- how many in a stretch of numbers -/
def cw (F : Nat → Bool) (lo : Nat) : Nat → Nat
  | 0 => 0
  | k + 1 => cw F lo k + if F (lo + k) = true then 1 else 0
theorem cb_add (F : Nat → Bool) {lo : Nat} (h : 0 < lo) (k : Nat) : cb F (lo + k) = cb F lo + cw F lo k := by
  induction k with
  | zero => rfl
  | succ k ih =>
    show cb F (lo + k) + (if 0 < lo + k ∧ F (lo + k) = true then 1 else 0) = cb F lo + (cw F lo k + if F (lo + k) = true then 1 else 0)
    rw [ih]
    have : (0 < lo + k ∧ F (lo + k) = true) ↔ F (lo + k) = true := ⟨fun h => h.2, fun h' => ⟨by omega, h'⟩⟩
    simp only [this]
    omega
theorem cw_add (F : Nat → Bool) (lo k m : Nat) : cw F lo (k + m) = cw F lo k + cw F (lo + k) m := by
  induction m with
  | zero => rfl
  | succ m ih =>
    show cw F lo (k + m) + (if F (lo + (k + m)) = true then 1 else 0) = cw F lo k + (cw F (lo + k) m + if F (lo + k + m) = true then 1 else 0)
    rw [ih, Nat.add_assoc lo k m]
    omega
theorem cw_le (F : Nat → Bool) (lo k : Nat) : cw F lo k ≤ k := by
  induction k with
  | zero => exact Nat.le_refl _
  | succ k ih => unfold cw; split <;> omega
theorem foldl_cw (F : Nat → Bool) (lo w : Nat) (c : Nat → Nat) : ∀ k, (∀ f, f ≤ k → c f = cw F (lo + f * w) w) → (List.range k).foldl (fun acc f => acc + c (f + 1)) (c 0) = cw F lo ((k + 1) * w) := by
  intro k
  induction k with
  | zero => intro h; simp [h 0 (Nat.le_refl _)]
  | succ k ih =>
    intro h
    rw [List.range_succ, List.foldl_append, ih fun f hf => h f (by omega)]
    show cw F lo ((k + 1) * w) + c (k + 1) = _
    rw [h (k + 1) (Nat.le_refl _), show (k + 1 + 1) * w = (k + 1) * w + w by rw [Nat.succ_mul], cw_add]
/-- a stretch's count -/
theorem lev_count {b : Nat} (hb : 2 ≤ b) {g : Row2} {mk F : Nat → Bool} (ht : ∀ n, 0 < n → mk (run g b n) = F n) : ∀ (l n : Nat), 0 < n → lev g b (fun s => if mk s = true then 1 else 0) (· + ·) l (run g b n) = cw F (n * b ^ l) (b ^ l) := by
  intro l
  induction l with
  | zero =>
    intro n hn
    show (if mk (run g b n) = true then 1 else 0) = _
    rw [ht n hn, Nat.pow_zero, Nat.mul_one]
    unfold cw cw
    simp
  | succ l ih =>
    intro n hn
    unfold lev
    have := foldl_cw F (n * b ^ (l + 1)) (b ^ l) (fun f => lev g b (fun s => if mk s = true then 1 else 0) (· + ·) l (nxt g (run g b n) f)) (b - 1) fun f hf => by
      have hp : 0 < n * b := Nat.mul_pos hn (by omega)
      rw [← run_snoc hb (by omega) (.inl hn), ih (n * b + f) (by omega)]
      congr 1
      rw [Nat.add_mul, Nat.pow_succ, Nat.mul_comm (b ^ l) b, ← Nat.mul_assoc]
    rw [this]
    congr 1
    rw [Nat.sub_add_cancel (by omega), Nat.pow_succ, Nat.mul_comm]
/-- stretches side by side: from one number to another -/
def Tile (g : Row2) (b : Nat) : Nat → List (Nat × Nat × Nat) → Nat → Prop
  | lo, [], hi => lo = hi
  | lo, t :: r, hi => t.2.2 = lo ∧ (∃ q, 0 < q ∧ lo = q * b ^ t.1 ∧ t.2.1 = run g b q) ∧ Tile g b (lo + b ^ t.1) r hi
section
variable {g : Row2} {b : Nat}
theorem Tile.append {lo mid hi : Nat} : ∀ {ts us : List (Nat × Nat × Nat)}, Tile g b lo ts mid → Tile g b mid us hi → Tile g b lo (ts ++ us) hi := by
  intro ts
  induction ts generalizing lo with
  | nil => intro us h1 h2; have h1 : lo = mid := h1; subst h1; exact h2
  | cons t r ih => intro us h1 h2; exact ⟨h1.1, h1.2.1, ih h1.2.2 h2⟩
theorem Tile.pos {lo hi : Nat} {t : Nat × Nat × Nat} {r : List (Nat × Nat × Nat)} (hb : 2 ≤ b) (h : Tile g b lo (t :: r) hi) : 0 < lo := by
  obtain ⟨_, ⟨q, hq, e, _⟩, _⟩ := h
  rw [e]
  exact Nat.mul_pos hq (Nat.pow_pos (by omega))
theorem Tile.le {lo hi : Nat} {ts : List (Nat × Nat × Nat)} (h : Tile g b lo ts hi) : lo ≤ hi := by
  induction ts generalizing lo with
  | nil => exact Nat.le_of_eq h
  | cons t r ih => exact Nat.le_trans (Nat.le_add_right _ _) (ih h.2.2)
/-- the parts of a stretch -/
def partsOf (g : Row2) (b : Nat) (t : Nat × Nat × Nat) : List (Nat × Nat × Nat) := (List.range b).map fun f => (t.1 - 1, nxt g t.2.1 f, t.2.2 + f * b ^ (t.1 - 1))
theorem tile_range (hb : 2 ≤ b) {q l : Nat} (hq : 0 < q) : ∀ k, k ≤ b → Tile g b (q * b * b ^ l) ((List.range k).map fun f => (l, nxt g (run g b q) f, q * b * b ^ l + f * b ^ l)) (q * b * b ^ l + k * b ^ l) := by
  intro k
  induction k with
  | zero => intro _; show _ = _; simp
  | succ k ih =>
    intro hk
    rw [List.range_succ, List.map_append]
    refine Tile.append (ih (by omega)) ⟨rfl, ⟨q * b + k, ?_, ?_, ?_⟩, ?_⟩
    · have : 0 < q * b := Nat.mul_pos hq (by omega)
      omega
    · rw [Nat.add_mul]
    · exact (run_snoc hb (by omega) (.inl hq)).symm
    · show _ = _
      rw [Nat.succ_mul, ← Nat.add_assoc]
theorem partsOf_tile (hb : 2 ≤ b) {l s m q : Nat} (hq : 0 < q) (hm : m = q * b ^ (l + 1)) (hs : s = run g b q) : Tile g b m (partsOf g b (l + 1, s, m)) (m + b ^ (l + 1)) := by
  have e : q * b ^ (l + 1) = q * b * b ^ l := by rw [Nat.pow_succ, Nat.mul_comm (b ^ l) b, ← Nat.mul_assoc]
  have h := tile_range (g := g) hb (l := l) hq b (Nat.le_refl _)
  subst hm hs
  unfold partsOf
  dsimp only
  rw [Nat.add_sub_cancel]
  rw [show q * b ^ (l + 1) + b ^ (l + 1) = q * b * b ^ l + b * b ^ l by rw [e, Nat.pow_succ, Nat.mul_comm (b ^ l) b]]
  rw [e]
  exact h
/-- what is told of stretches side by side -/
def tsum (c : Nat → Nat → Nat) (ts : List (Nat × Nat × Nat)) : Nat := (ts.map fun t => c t.1 t.2.1).sum
theorem Tile.count {F : Nat → Bool} (hb : 2 ≤ b) {c : Nat → Nat → Nat} (hc : ∀ l n, 0 < n → c l (run g b n) = cw F (n * b ^ l) (b ^ l)) : ∀ {ts : List (Nat × Nat × Nat)} {lo hi : Nat}, Tile g b lo ts hi → 0 < lo → cb F hi = cb F lo + tsum c ts := by
  intro ts
  induction ts with
  | nil => intro lo hi h _; have h : lo = hi := h; subst h; simp [tsum]
  | cons t r ih =>
    intro lo hi h hlo
    obtain ⟨h1, ⟨q, hq, e, e2⟩, h3⟩ := h
    rw [ih h3 (by omega), cb_add F hlo]
    have : c t.1 t.2.1 = cw F lo (b ^ t.1) := by rw [e2, hc _ _ hq, ← e]
    unfold tsum
    rw [List.map_cons, List.sum_cons, this]
    omega
end
/-! ### the first figures of a number -/
theorem figs_lt_pow {b : Nat} (hb : 2 ≤ b) : ∀ n, n < b ^ (figs b n).length := by
  intro n
  induction n using Nat.strongRecOn with
  | ind n ih =>
    by_cases h0 : n = 0
    · subst h0; rw [figs_zero]; simp
    · have hn : 0 < n := Nat.pos_of_ne_zero h0
      obtain ⟨e, h1, h2, h3⟩ := split_num hb hn
      have := ih (n / b) h3
      rw [figs_pos hb hn, List.length_append, List.length_singleton, Nat.pow_succ]
      have : (n / b + 1) * b ≤ b ^ (figs b (n / b)).length * b := Nat.mul_le_mul_right _ this
      rw [Nat.succ_mul] at this
      omega
theorem figs_pow_le {b : Nat} (hb : 2 ≤ b) : ∀ n, 0 < n → b ^ ((figs b n).length - 1) ≤ n := by
  intro n
  induction n using Nat.strongRecOn with
  | ind n ih =>
    intro hn
    obtain ⟨e, h1, h2, h3⟩ := split_num hb hn
    rw [figs_pos hb hn, List.length_append, List.length_singleton, Nat.add_sub_cancel]
    by_cases hq : 0 < n / b
    · have := ih (n / b) h3 hq
      have hl : 0 < (figs b (n / b)).length := by
        rw [figs_pos hb hq]; simp
      obtain ⟨k, hk⟩ : ∃ k, (figs b (n / b)).length = k + 1 := ⟨(figs b (n / b)).length - 1, by omega⟩
      rw [hk, Nat.pow_succ]
      rw [hk, Nat.add_sub_cancel] at this
      have := Nat.mul_le_mul_right b this
      omega
    · have h0 : n / b = 0 := Nat.eq_zero_of_not_pos hq
      rw [h0, figs_zero, List.length_nil, Nat.pow_zero]
      exact hn
theorem figs_len_pos {b n : Nat} (hb : 2 ≤ b) (hn : 0 < n) : 0 < (figs b n).length := by rw [figs_pos hb hn]; simp
theorem figs_get {b : Nat} (hb : 2 ≤ b) : ∀ n i f, (figs b n)[i]? = some f → f = n / b ^ ((figs b n).length - 1 - i) % b := by
  intro n
  induction n using Nat.strongRecOn with
  | ind n ih =>
    intro i f h
    by_cases h0 : n = 0
    · subst h0; rw [figs_zero] at h; cases h
    · have hn : 0 < n := Nat.pos_of_ne_zero h0
      obtain ⟨e, h1, h2, h3⟩ := split_num hb hn
      have hih := ih (n / b) h3 i f
      rw [figs_pos hb hn] at h ⊢
      rw [List.length_append, List.length_singleton, Nat.add_sub_cancel]
      by_cases hi : i < (figs b (n / b)).length
      · rw [List.getElem?_append_left hi] at h
        rw [hih h, Nat.div_div_eq_div_mul]
        obtain ⟨k, hk⟩ : ∃ k, (figs b (n / b)).length - i = k + 1 := ⟨(figs b (n / b)).length - i - 1, by omega⟩
        rw [show (figs b (n / b)).length - 1 - i = k by omega, hk, Nat.pow_succ, Nat.mul_comm]
      · have hi2 : i = (figs b (n / b)).length := by
          have := (List.getElem?_eq_some_iff.mp h).1
          rw [List.length_append, List.length_singleton] at this
          omega
        rw [hi2, List.getElem?_append_right (Nat.le_refl _), Nat.sub_self] at h
        have h : n % b = f := Option.some.inj h
        rw [hi2, Nat.sub_self, Nat.pow_zero, Nat.div_one, h]
/-- the number that the first figures write -/
def qAt (b n i : Nat) : Nat := n / b ^ ((figs b n).length - i)
theorem qAt_zero {b : Nat} (hb : 2 ≤ b) (n : Nat) : qAt b n 0 = 0 := by
  unfold qAt
  rw [Nat.sub_zero]
  exact Nat.div_eq_of_lt (figs_lt_pow hb n)
theorem qAt_all {b : Nat} (n : Nat) : qAt b n (figs b n).length = n := by
  unfold qAt
  rw [Nat.sub_self, Nat.pow_zero, Nat.div_one]
theorem qAt_succ {b : Nat} (hb : 2 ≤ b) {n i f : Nat} (h : (figs b n)[i]? = some f) : qAt b n (i + 1) = qAt b n i * b + f ∧ f < b := by
  have hi := (List.getElem?_eq_some_iff.mp h).1
  have hf := figs_get hb n i f h
  have hfb : f < b := figs_lt hb n f (List.mem_of_getElem? h)
  refine ⟨?_, hfb⟩
  unfold qAt
  obtain ⟨k, hk⟩ : ∃ k, (figs b n).length - i = k + 1 := ⟨(figs b n).length - i - 1, by omega⟩
  rw [show (figs b n).length - (i + 1) = k by omega, hk, Nat.pow_succ, ← Nat.div_div_eq_div_mul]
  rw [show (figs b n).length - 1 - i = k by omega] at hf
  rw [hf, Nat.mul_comm]
  exact (Nat.div_add_mod _ _).symm
theorem qAt_pos {b : Nat} (hb : 2 ≤ b) {n i : Nat} (hn : 0 < n) (hi : 0 < i) : 0 < qAt b n i := by
  unfold qAt
  have := figs_pow_le hb n hn
  refine Nat.div_pos (Nat.le_trans (Nat.pow_le_pow_right (by omega) (by omega)) this) (Nat.pow_pos (by omega))
theorem qAt_le {b : Nat} (n i : Nat) : qAt b n i ≤ n := Nat.div_le_self _ _
theorem qAt_first {b : Nat} (hb : 2 ≤ b) {n f : Nat} (hn : 0 < n) (h : (figs b n)[0]? = some f) : 0 < f := by
  have := (qAt_succ hb h).1
  have h1 := qAt_pos hb (i := 1) hn (by omega)
  rw [qAt_zero hb, Nat.zero_mul] at this
  have e : qAt b n 1 = 0 + f := this
  omega
end Bz
namespace Bz
theorem tile_from {g : Row2} {b q lo l : Nat} (hb : 2 ≤ b) (h0 : 0 < q ∨ 0 < lo) : ∀ k, lo + k ≤ b → Tile g b ((q * b + lo) * b ^ l) ((List.range k).map fun j => (l, nxt g (run g b q) (lo + j), (q * b + (lo + j)) * b ^ l)) ((q * b + lo + k) * b ^ l) := by
  intro k
  induction k with
  | zero => intro _; rfl
  | succ k ih =>
    intro hk
    rw [List.range_succ, List.map_append]
    have e : q * b + (lo + k) = q * b + lo + k := by omega
    refine Tile.append (ih (by omega)) ⟨by dsimp only; rw [e], ⟨q * b + lo + k, ?_, rfl, ?_⟩, ?_⟩
    · rcases h0 with h0 | h0
      · have : 0 < q * b := Nat.mul_pos h0 (by omega)
        omega
      · omega
    · dsimp only
      rw [← e]
      exact (run_snoc hb (by omega) (by omega)).symm
    · show _ = _
      dsimp only
      rw [show q * b + lo + (k + 1) = (q * b + lo + k) + 1 by omega, Nat.succ_mul]
end Bz
end
section
set_option Elab.async false
set_option linter.all false
set_option maxRecDepth 100000
set_option maxHeartbeats 4000000
namespace Bz
open PySem PySem.Spec PyProof.Rows L2 LamX NdefX
/-- stretches, as tuples -/
def trV (t : Nat × Nat × Nat) : List V := [.int t.1, .int t.2.1, .int t.2.2]
def TrAre (H : Hp) (xs : List V) (ts : List (Nat × Nat × Nat)) : Prop := xs.length = ts.length ∧ ∀ (i : Nat) (x : V) (t : Nat × Nat × Nat), xs[i]? = some x → ts[i]? = some t → ∃ q, x = .ref q ∧ H q = some (.tup (trV t))
theorem TrAre.keep {H H' : Hp} {xs : List V} {ts : List (Nat × Nat × Nat)} (h : TrAre H xs ts) (e : ∀ b ys, H b = some (.tup ys) → H' b = some (.tup ys)) : TrAre H' xs ts := ⟨h.1, fun i x t a c => let ⟨q, e1, e2⟩ := h.2 i x t a c; ⟨q, e1, e _ _ e2⟩⟩
theorem TrAre.sm {H H' : Hp} {xs : List V} {ts : List (Nat × Nat × Nat)} (h : TrAre H xs ts) (e : Sm H H') : TrAre H' xs ts := h.keep fun b ys q => e.at_ _ _ q
theorem TrAre.nil {H : Hp} : TrAre H [] [] := ⟨rfl, fun i x t a _ => by simp at a⟩
theorem TrAre.append {H : Hp} {xs ys : List V} {ts us : List (Nat × Nat × Nat)} (h : TrAre H xs ts) (k : TrAre H ys us) : TrAre H (xs ++ ys) (ts ++ us) := by
  refine ⟨by simp [h.1, k.1], fun i x t a c => ?_⟩
  by_cases hi : i < xs.length
  · rw [List.getElem?_append_left hi] at a
    rw [List.getElem?_append_left (by rw [← h.1]; exact hi)] at c
    exact h.2 i x t a c
  · rw [List.getElem?_append_right (by omega)] at a
    rw [List.getElem?_append_right (by rw [← h.1]; omega), ← h.1] at c
    exact k.2 _ x t a c
theorem TrAre.one {H : Hp} {q : Addr} {t : Nat × Nat × Nat} (h : H q = some (.tup (trV t))) : TrAre H [.ref q] [t] := ⟨rfl, fun i x u a c => by
  cases i with
  | zero => cases a; cases c; exact ⟨q, rfl, h⟩
  | succ i => simp at a⟩
theorem TrAre.at_ {H : Hp} {xs : List V} {ts : List (Nat × Nat × Nat)} (h : TrAre H xs ts) {i : Nat} {x : V} (e : xs[i]? = some x) : ∃ t q, ts[i]? = some t ∧ x = .ref q ∧ H q = some (.tup (trV t)) := by
  have hl : i < ts.length := by rw [← h.1]; exact (List.getElem?_eq_some_iff.mp e).1
  obtain ⟨q, e1, e2⟩ := h.2 i x _ e (List.getElem?_eq_getElem hl)
  exact ⟨_, q, List.getElem?_eq_getElem hl, e1, e2⟩
theorem pow_small {b t : Nat} (hb : b ≤ 16) (ht : t ≤ 4000) : b ^ t < 2 ^ 16001 := Nat.lt_of_le_of_lt (Nat.pow_le_pow_left hb t) (by
  rw [show (16 : Nat) = 2 ^ 4 from rfl, ← Nat.pow_mul]
  exact Nat.pow_lt_pow_right (by decide) (by omega))
section
variable {P : Program} {w : World} {K : PySem.W.Frag} {mg : Str → Option Value} {base : Heap}
abbrev N_power_of : List Str := ["base", "times", "found", "turn"]
theorem sc_power_of : FnScope N_power_of ["base", "times"] (defScope s_power_of) := ⟨rfl, rfl, rfl, by decide +kernel, rfl, by decide +kernel, by decide +kernel⟩
theorem hb_power_of : HB s_power_of "power_of" "power_of" ["base", "times"] := fun _ _ _ _ _ _ us hl => match us, hl with | [_, _], _ => rfl

def spPow : Sp := fun vs H Q _ => ∃ b t : Nat, vs = [.int b, .int t] ∧ b ≤ 16 ∧ t ≤ 4000 ∧ Q (.int (b ^ t : Nat)) H
theorem g_power_of {f : Addr} (T : Bt mg) (D : Df K "power_of" "power_of" s_power_of f) (m : mg "power_of" = some (.ref f)) : Fn P w K mg base CXN 1 "power_of" ["base", "times"] spPow := by
  refine D.fn m sc_power_of hb_power_of (fun vs H Q E ⟨b, t, e, _⟩ => by rw [e]; rfl) fun cdv A outer s H vs Q E hr ⟨b, t, e, hb, ht, k_⟩ => ?_
  subst e
  refine ⟨_, (pss_cons (ps_set (i := 2) sc_power_of.nd rfl (Or.inl rfl) pe_int)
    (pss_cons (ps_for PassesOwn.never rfl (pi_range1 rfl T.range (pa_cons (pv 1) pa_nil)) (pg_name (i := 3) sc_power_of.nd rfl (Or.inl rfl)) (pss_one (ps_aug (i := 2) sc_power_of.nd rfl (Or.inl rfl) (pv 0) ip_mulW)))
    (pss_one (ps_ret (pv 2))))), ?_⟩
  refine ⟨_, rfl, _, rfl, by omega, by omega, for_range (lo := 0) (n := t) (fun i σ H' => H' = H ∧ ∃ o, σ = [some (.int b), some (.int t), some (.int (b ^ i : Nat)), o]) ⟨rfl, _, rfl⟩ ?_ ?_⟩
  · rintro i σ H1 hi ⟨rfl, o, rfl⟩
    refine ⟨_, rfl, _, rfl, _, _, rfl, rfl, wide_mul (a := 16001) (b := 10) (by simpa using pow_small (b := b) (t := i) hb (by omega)) (by simp; omega) (by decide) (by decide) (by decide), rfl, some (.int (0 + (i : Int))), ?_⟩
    have e : ((b ^ i : Nat) : Int) * (b : Int) = ((b ^ (i + 1) : Nat) : Int) := by rw [Nat.pow_succ]; simp
    rw [← e]
    rfl
  · rintro σ H1 ⟨rfl, o, rfl⟩
    exact ⟨_, rfl, k_⟩
abbrev N_levels_for : List Str := ["number", "figures"]
theorem sc_levels_for : FnScope N_levels_for ["number", "figures"] (defScope s_levels_for) := ⟨rfl, rfl, rfl, by decide +kernel, rfl, by decide +kernel, by decide +kernel⟩
theorem hb_levels_for : HB s_levels_for "levels_for" "levels_for" ["number", "figures"] := fun _ _ _ _ _ _ us hl => match us, hl with | [_, _], _ => rfl

def spLevFor : Sp := fun vs H Q _ => ∃ n b : Nat, vs = [.int n, .int b] ∧ 2 ≤ b ∧ b ≤ 16 ∧ n < 2 ^ 3000 ∧ ∀ H', Sm H H' → Q (.int ((figs b n).length : Nat)) H'
theorem g_levels_for {f : Addr} (T : Bt mg) (D : Df K "levels_for" "levels_for" s_levels_for f) (m : mg "levels_for" = some (.ref f)) (G1 : Fn P w K mg base CXN 1 "figures_of" ["number", "base"] spFigures) : Fn P w K mg base CXN 2 "levels_for" ["number", "figures"] spLevFor := by
  refine D.fn m sc_levels_for hb_levels_for (fun vs H Q E ⟨n, b, e, _⟩ => by rw [e]; rfl) fun cdv A outer s H vs Q E hr ⟨n, b, e, hb, hb2, hn, k_⟩ => ?_
  subst e
  refine ⟨_, (pss_one (ps_ret (pe_callB (call_len_seqK (K := K) rfl) (by rfl) T.len PySem.boot_len (pa_cons (pe_fn G1 hr (by rfl) pass0 (pa_cons (pv 0) (pa_cons (pv 1) pa_nil))) pa_nil)))), ?_⟩
  refine ⟨_, rfl, _, rfl, n, b, rfl, hb, hb2, hn, fun l H1 hl e1 hl1 => ?_⟩
  refine ⟨l, _, rfl, .inl (SqL.of hl1), ?_⟩
  rw [show (nV (figs b n)).length = (figs b n).length from List.length_map ..]
  exact k_ H1 e1
abbrev N_parts_of : List Str := ["grid", "level", "state", "least", "power", "figure", "later"]
theorem sc_parts_of : FnScope N_parts_of ["grid", "level", "state", "least"] (defScope s_parts_of) := ⟨rfl, rfl, rfl, by decide +kernel, rfl, by decide +kernel, by decide +kernel⟩
theorem hb_parts_of : HB s_parts_of "parts_of" "parts_of" ["grid", "level", "state", "least"] := fun _ _ _ _ _ _ us hl => match us, hl with | [_, _, _, _], _ => rfl

/-- parts_of(grid, level, state, least) of a stretch -/
def spParts (C : Addr) : Sp := fun vs H Q _ => ∃ (a : Addr) (b m l s lo : Nat) (g : Rows) (ms : List V), vs = [.ref a, .int (l + 1 : Nat), .int s, .int lo] ∧ GridAt C H a b g ms ∧ 2 ≤ b ∧ b ≤ 16 ∧ Wf b m g ∧ 1 ≤ s ∧ s ≤ m ∧ l ≤ 4000 ∧
  ∀ p xs H', H p = none → Sm H H' → H' p = some (.lst xs) → TrAre H' xs (partsOf g b (l + 1, s, lo)) → Q (.ref p) H'
theorem g_parts_of {f C : Addr} (T : Bt mg) (c : GrC K C) (D : Df K "parts_of" "parts_of" s_parts_of f) (m : mg "parts_of" = some (.ref f)) (G1 : Fn P w K mg base CXN 1 "power_of" ["base", "times"] spPow) : Fn P w K mg base CXN 2 "parts_of" ["grid", "level", "state", "least"] (spParts C) := by
  refine D.fn m sc_parts_of hb_parts_of (fun vs H Q E ⟨a, b, m, l, s, lo, g, ms, e, _⟩ => by rw [e]; rfl) fun cdv A outer s0 H vs Q E hr ⟨a, b, m, l, s, lo, g, ms, e, hg, hb, hb2, wf, hs1, hs2, hl, k_⟩ => ?_
  subst e
  refine ⟨_, (pss_cons (ps_set (i := 4) sc_parts_of.nd rfl (Or.inr rfl) (pe_fn G1 hr (by rfl) pass0 (pa_cons (pe_fldK (K := K) rfl (pv 0) rfl) (pa_cons (pe_op op_sub (pv 1) pe_int) pa_nil))))
    (pss_one (ps_ret (pe_lc (own := [("figure", 5), ("later", 6)]) (g := gTup K 2 (gCons (gName 5) (gCons (gName 6) gNil))) (tt := tYes) rfl sc_parts_of.nd (pi_enumK (K := K) rfl (by rfl) T.enumerate (pa_cons (pe_ix (ix_listK (K := K) rfl) (pe_fldK (K := K) rfl (pv 0) rfl) (pv 2) (fun _ _ => rfl)) pa_nil)) (blkOk_by (own := [("figure", 5), ("later", 6)]) (N := N_parts_of) (sc := defScope s_parts_of) (by decide +kernel)) (fun _ _ _ _ _ => (pg_tupK rfl rfl (pgs_cons (pg_name (i := 5) sc_parts_of.nd rfl (Or.inl rfl)) (pgs_cons (pg_name (i := 6) sc_parts_of.nd rfl (Or.inl rfl)) pgs_nil)))) (fun _ _ _ _ _ => pts_nil) (fun _ _ _ _ _ => (pe_tup (pa_cons (pe_op op_sub (pv 1) pe_int) (pa_cons (pv 6) (pa_cons (pe_op op_add (pv 3) (pe_op op_mulW (pv 5) (pv 4))) pa_nil))))))))), ?_⟩
  obtain ⟨dx, pg, pm, ha, ⟨as, hr1, hr2, hr3⟩, hm⟩ := id hg
  refine ⟨_, rfl, a, C, dx, _, _, rfl, ha, c.cl, c.nF, gr_F b pg pm, _, rfl, _, _, rfl, rfl, b, l, by show [V.int (b : Nat), V.int (((l + 1 : Nat) : Int) - 1)] = _; rw [show (((l + 1 : Nat) : Int) - 1) = (l : Int) by omega], hb2, hl, ?_⟩
  obtain ⟨r, hr⟩ : ∃ r, g[s]? = some r := ⟨_, List.getElem?_eq_getElem (by rw [wf.len]; omega)⟩
  obtain ⟨q, hq, hq1⟩ := hr3 s r hr
  have hrl : r.length = b := wf.row _ _ hr
  have hrow : ∀ i, i < b → r[i]? = some (some (nxt g s i)) := fun i hi => by
    obtain ⟨t, et, _⟩ := wf.ent s i hs2 hi (.inl (by omega))
    obtain ⟨r', h1, h2⟩ := rows_get et
    rw [hr] at h1
    cases h1
    rw [h2]
    unfold nxt
    rw [et]; rfl
  refine ⟨_, rfl, a, C, dx, _, _, rfl, ha, c.cl, c.nG, gr_G b pg pm, _, rfl, pg, _, _, .ref q, rfl, rfl, SqL.of hr1, atI_nat (by rw [List.getElem?_map, hq] <;> rfl), q, _, rfl, SqL.of hq1, fun D hD => ?_⟩
  refine lc_it (walk_enum (xs := r.map oV)) (fun i H' => Sm H H' ∧ ∃ xs, H' D = some (.lst xs) ∧ TrAre H' xs ((List.range i).map fun f => (l, nxt g s f, lo + f * b ^ l))) ⟨Sm.new hD, [], upd_same, TrAre.nil⟩ (fun i H' _ p => SqL.of (p.1.at_ _ _ hq1)) ?_ ?_
  · rintro i x H1 H2 hi ⟨e1, xs, hx1, hx2⟩ ⟨Tt, u, v, rfl, hTt, rfl, hu, hv⟩
    rw [List.length_map, hrl] at hi
    have hu := Option.some.inj hu
    have hv : (r.map oV)[i]? = some v := hv
    rw [List.getElem?_map, hrow i hi] at hv
    have hv := Option.some.inj hv
    subst hu hv
    have e2 : Sm H1 (upd H1 Tt (.tup [V.int (i : Nat), oV (some (nxt g s i))])) := Sm.new hTt
    refine ⟨Tt, _, rfl, SqT.of upd_same, rfl, _, _, rfl, _, _, rfl, rfl, rfl, ?_⟩
    unfold tYes
    dsimp only
    rw [if_pos rfl]
    have hx1' := e2.at_ _ _ hx1
    have hx2' := hx2.sm e2
    have e12 := e1.trans e2
    generalize upd H1 Tt (.tup [V.int (i : Nat), oV (some (nxt g s i))]) = H3 at *
    have hlen : xs.length = i := by rw [hx2.1]; simp
    refine ⟨_, rfl, _, _, rfl, rfl, _, rfl, _, rfl, _, rfl, _, rfl, _, _, rfl, rfl, wide_mul (a := 10) (b := 16001) (by simp; omega) (by simpa using pow_small (b := b) (t := l) hb2 hl) (by decide) (by decide) (by decide), _, _, rfl, rfl, ?_⟩
    refine ⟨by show 3 ≤ sizeLine; decide, fun pt hpt => ⟨xs, upd_get hx1' hpt, by rw [hlen]; exact sz_lt (by omega), (e12.trans (Sm.new hpt)).mut hD, xs ++ [.ref pt], upd_same, ?_⟩⟩
    have npt : pt ≠ D := fun z => by rw [z, hx1'] at hpt; cases hpt
    rw [List.range_succ, List.map_append]
    refine TrAre.append (hx2'.keep fun b' ys hb' => ?_) (TrAre.one ?_)
    · rw [upd_ne fun z => by rw [z, hx1'] at hb'; cases hb']
      exact upd_get hb' hpt
    · rw [upd_ne npt, upd_same]
      show some (HO.tup [V.int (((l + 1 : Nat) : Int) - 1), oV (some (nxt g s i)), V.int ((lo : Int) + (i : Int) * ((b ^ l : Nat) : Int))]) = some (HO.tup [V.int (l : Nat), V.int (nxt g s i : Nat), V.int ((lo + i * b ^ l : Nat) : Int)])
      rw [show (((l + 1 : Nat) : Int) - 1) = (l : Int) by omega, show ((lo : Int) + (i : Int) * ((b ^ l : Nat) : Int)) = ((lo + i * b ^ l : Nat) : Int) by simp]
      rfl
  · rintro H1 ⟨e1, xs, hx1, hx2⟩
    rw [List.length_map, hrl] at hx2
    exact k_ D xs H1 hD e1 hx1 hx2
end
end Bz
end
section
set_option Elab.async false
set_option linter.all false
set_option maxRecDepth 100000
set_option maxHeartbeats 4000000
namespace Bz
open PySem PySem.Spec PyProof.Rows L2 LamX NdefX
section
variable {P : Program} {w : World} {K : PySem.W.Frag} {mg : Str → Option Value} {base : Heap}
/-- where the stretches ahead of a figure end -/
def eAt (b n i : Nat) : Nat := if i = 0 then b ^ ((figs b n).length - 1) else qAt b n i * b ^ ((figs b n).length - i)
abbrev N_stretches_upto : List Str := ["grid", "number", "figures", "many", "found", "size", "power", "figure", "state", "ahead", "place", "less"]
theorem sc_stretches_upto : FnScope N_stretches_upto ["grid", "number"] (defScope s_stretches_upto) := ⟨rfl, rfl, rfl, by decide +kernel, rfl, by decide +kernel, by decide +kernel⟩
theorem hb_stretches_upto : HB s_stretches_upto "stretches_upto" "stretches_upto" ["grid", "number"] := fun _ _ _ _ _ _ us hl => match us, hl with | [_, _], _ => rfl

/-- stretches_upto(grid, number) -/
def spStrUp (C : Addr) : Sp := fun vs H Q _ => ∃ (a : Addr) (b m n : Nat) (g : Rows) (ms : List V), vs = [.ref a, .int n] ∧ GridAt C H a b g ms ∧ 2 ≤ b ∧ b ≤ 16 ∧ Wf b m g ∧ 0 < n ∧ n < 2 ^ 3000 ∧
  ∀ p xs ts H', H p = none → Sm H H' → H' p = some (.lst xs) → TrAre H' xs ts → Tile g b 1 ts (n + 1) → ts.length ≤ 32 * (figs b n).length + 1 → (∀ t ∈ ts, t.1 < (figs b n).length) → Q (.ref p) H'
theorem figs_len_le {b n : Nat} (hb : 2 ≤ b) (hn : n < 2 ^ 3000) : (figs b n).length ≤ 3000 := figs_len hb 3000 hn
theorem g_stretches_upto {f C : Addr} (T : Bt mg) (c : GrC K C) (D : Df K "stretches_upto" "stretches_upto" s_stretches_upto f) (m : mg "stretches_upto" = some (.ref f)) (G1 : Fn P w K mg base CXN 1 "figures_of" ["number", "base"] spFigures) (G2 : Fn P w K mg base CXN 1 "power_of" ["base", "times"] spPow) : Fn P w K mg base CXN 2 "stretches_upto" ["grid", "number"] (spStrUp C) := by
  refine D.fn m sc_stretches_upto hb_stretches_upto (fun vs H Q E ⟨a, b, m, n, g, ms, e, _⟩ => by rw [e]; rfl) fun cdv A outer s0 H vs Q E hr ⟨a, b, m, n, g, ms, e, hg, hb, hb2, wf, hn, hn2, k_⟩ => ?_
  subst e
  refine ⟨_, (pss_cons (ps_set (i := 2) sc_stretches_upto.nd rfl (Or.inl rfl) (pe_fn G1 hr (by rfl) pass0 (pa_cons (pv 1) (pa_cons (pe_fldK (K := K) rfl (pv 0) rfl) pa_nil))))
    (pss_cons (ps_par (i := 3) (j := 4) (by rfl) sc_stretches_upto.nd rfl rfl (by decide) rfl rfl (pa_cons (pe_callB (call_len_seqK (K := K) rfl) (by rfl) T.len PySem.boot_len (pa_cons (pv 2) pa_nil)) (pa_cons (pe_lst pa_nil) pa_nil)) (by rfl))
    (pss_cons (ps_for PassesOwn.never rfl (pi_range2 rfl T.range (pa_cons pe_int (pa_cons (pv 3) pa_nil))) (pg_name (i := 5) sc_stretches_upto.nd rfl (Or.inr rfl)) (pss_cons (ps_set (i := 6) sc_stretches_upto.nd rfl (Or.inr rfl) (pe_fn G2 hr (by rfl) pass0 (pa_cons (pe_fldK (K := K) rfl (pv 0) rfl) (pa_cons (pe_op op_sub (pv 5) pe_int) pa_nil))))
    (pss_one (ps_expr (pe_bm PySem.F.plainAttrs_list PySem.F.slot_list_extend PySem.F.type_list_extend mt_extend (pv 4) (pa_cons (pe_lc (own := [("figure", 7)]) (g := gName 7) (tt := tYes) rfl sc_stretches_upto.nd (pi_range2 rfl T.range (pa_cons pe_int (pa_cons (pe_fldK (K := K) rfl (pv 0) rfl) pa_nil))) (blkOk_by (own := [("figure", 7)]) (N := N_stretches_upto) (sc := defScope s_stretches_upto) (by decide +kernel)) (fun _ _ _ _ _ => (pg_name (i := 7) sc_stretches_upto.nd rfl (Or.inl rfl))) (fun _ _ _ _ _ => pts_nil) (fun _ _ _ _ _ => (pe_tup (pa_cons (pe_op op_sub (pv 5) pe_int) (pa_cons (pe_ix (ix_listK (K := K) rfl) (pe_ix (ix_listK (K := K) rfl) (pe_fldK (K := K) rfl (pv 0) rfl) pe_int (fun _ _ => rfl)) (pv 7) (fun _ _ => rfl)) (pa_cons (pe_op op_mulW (pv 7) (pv 6)) pa_nil)))))) pa_nil))))))
    (pss_cons (ps_asg (pe_tup (pa_cons pe_int (pa_cons pe_int pa_nil))) (pg_tup rfl (pgs_cons (pg_name (i := 8) sc_stretches_upto.nd rfl (Or.inl rfl)) (pgs_cons (pg_name (i := 9) sc_stretches_upto.nd rfl (Or.inl rfl)) pgs_nil))))
    (pss_cons (ps_for PassesOwn.never rfl (pi_enumK (K := K) rfl (by rfl) T.enumerate (pa_cons (pv 2) pa_nil)) (pg_tup rfl (pgs_cons (pg_name (i := 10) sc_stretches_upto.nd rfl (Or.inl rfl)) (pgs_cons (pg_name (i := 7) sc_stretches_upto.nd rfl (Or.inl rfl)) pgs_nil))) (pss_cons (ps_set (i := 6) sc_stretches_upto.nd rfl (Or.inr rfl) (pe_fn G2 hr (by rfl) pass0 (pa_cons (pe_fldK (K := K) rfl (pv 0) rfl) (pa_cons (pe_op op_sub (pe_op op_sub (pv 3) pe_int) (pv 10)) pa_nil))))
    (pss_cons (ps_for PassesOwn.never rfl (pi_range2 rfl T.range (pa_cons (pe_callTy call_int1 (by rfl) T.int (by decide +kernel) (pa_cons (pe_cmpR (op_eq) (pv 10) pe_int (nomark _)) pa_nil)) (pa_cons (pv 7) pa_nil))) (pg_name (i := 11) sc_stretches_upto.nd rfl (Or.inl rfl)) (pss_one (ps_expr (pe_bm PySem.F.plainAttrs_list PySem.F.slot_list_append PySem.F.type_list_append mt_append (pv 4) (pa_cons (pe_tup (pa_cons (pe_op op_sub (pe_op op_sub (pv 3) pe_int) (pv 10)) (pa_cons (pe_ix (ix_listK (K := K) rfl) (pe_ix (ix_listK (K := K) rfl) (pe_fldK (K := K) rfl (pv 0) rfl) (pv 8) (fun _ _ => rfl)) (pv 11) (fun _ _ => rfl)) (pa_cons (pe_op op_mulW (pe_op op_add (pe_op op_mulW (pv 9) (pe_fldK (K := K) rfl (pv 0) rfl)) (pv 11)) (pv 6)) pa_nil)))) pa_nil)))))
    (pss_one (ps_par (i := 8) (j := 9) (by rfl) sc_stretches_upto.nd rfl rfl (by decide) rfl rfl (pa_cons (pe_ix (ix_listK (K := K) rfl) (pe_ix (ix_listK (K := K) rfl) (pe_fldK (K := K) rfl (pv 0) rfl) (pv 8) (fun _ _ => rfl)) (pv 7) (fun _ _ => rfl)) (pa_cons (pe_op op_add (pe_op op_mulW (pv 9) (pe_fldK (K := K) rfl (pv 0) rfl)) (pv 7)) pa_nil)) (by rfl))))))
    (pss_cons (ps_expr (pe_bm PySem.F.plainAttrs_list PySem.F.slot_list_append PySem.F.type_list_append mt_append (pv 4) (pa_cons (pe_tup (pa_cons pe_int (pa_cons (pv 8) (pa_cons (pv 1) pa_nil)))) pa_nil)))
    (pss_one (ps_ret (pv 4))))))))), ?_⟩
  obtain ⟨dx, pg, pm, ha, ⟨as, hr1, hr2, hr3⟩, hm⟩ := id hg
  have hL3 := figs_len_le hb hn2
  have hL0 := figs_len_pos hb hn
  obtain ⟨L, hL⟩ : ∃ L, (figs b n).length = L := ⟨_, rfl⟩
  refine ⟨_, rfl, _, rfl, a, C, dx, _, _, rfl, ha, c.cl, c.nF, gr_F b pg pm, n, b, rfl, hb, hb2, hn2, fun l H0 hl e0 hl0 => ?_⟩
  refine ⟨_, rfl, l, _, rfl, .inl (SqL.of hl0), Nat.zero_le _, fun fd hfd => ⟨_, _, rfl, ?_⟩⟩
  have hll : (nV (figs b n)).length = L := by rw [show (nV (figs b n)).length = (figs b n).length from List.length_map ..]; exact hL
  have ha0 := e0.at_ _ _ ha
  have hr10 := e0.at_ _ _ hr1
  have hr30 : ∀ (i : Nat) (r : List (Option Nat)), g[i]? = some r → ∃ q, as[i]? = some q ∧ H0 q = some (.lst (r.map oV)) := fun i r h => let ⟨q, x, y⟩ := hr3 i r h; ⟨q, x, e0.at_ _ _ y⟩
  have hfd0 : H fd = none := e0.free hfd
  -- goals[s][f]
  have goal : ∀ (s fg : Nat), s ≤ m → fg < b → (0 < s ∨ 0 < fg) → ∃ (q : Addr) (r : List (Option Nat)), (as.map V.ref)[s]? = some (.ref q) ∧ H0 q = some (.lst (r.map oV)) ∧ (r.map oV)[fg]? = some (.int (nxt g s fg : Nat)) := fun s fg h1 h2 h3 => by
    obtain ⟨t, et, _⟩ := wf.ent s fg h1 h2 h3
    obtain ⟨r, er, ef⟩ := rows_get et
    obtain ⟨q, hq, hq1⟩ := hr30 s r er
    refine ⟨q, r, by rw [List.getElem?_map, hq] <;> rfl, hq1, ?_⟩
    rw [List.getElem?_map, ef]
    unfold nxt
    rw [et] <;> rfl
  have run_le : ∀ q, run g b q ≤ m := fun q => by
    by_cases h : 0 < q
    · exact (wf.run hb q h).2
    · have h0 : q = 0 := by omega
      rw [h0, run_zero]; exact Nat.zero_le _
  have run_pos : ∀ q, 0 < q → 0 < run g b q := fun q h => (wf.run hb q h).1
  rw [hll]
  refine ⟨_, rfl, _, _, rfl, ⟨by omega, by omega, by omega, by omega⟩, ?_⟩
  have hn1 : (((L : Nat) : Int) - 1).toNat = L - 1 := by omega
  rw [hn1]
  refine for_range (lo := 1) (n := L - 1) (fun i σ H' => ∃ (o5 o6 o7 : Option V) (xs : List V) (ts : List (Nat × Nat × Nat)), σ = [some (.ref a), some (.int n), some (.ref l), some (.int L), some (.ref fd), o5, o6, o7, none, none, none, none] ∧
    Sm H0 H' ∧ H' fd = some (.lst xs) ∧ TrAre H' xs ts ∧ Tile g b 1 ts (b ^ i) ∧ ts.length ≤ 16 * i ∧ ∀ t ∈ ts, t.1 < L) ⟨none, none, none, [], [], rfl, Sm.new hfd, upd_same, TrAre.nil, by show 1 = b ^ 0; rw [Nat.pow_zero], by simp, fun t h => by cases h⟩ ?_ ?_
  · rintro i σ H1 hi ⟨o5, o6, o7, xs, ts, rfl, e1, hx1, htr, htl, hlen, hlev⟩
    have e01 := e1
    refine ⟨_, rfl, a, C, dx, _, _, rfl, e1.at_ _ _ ha0, c.cl, c.nF, gr_F b pg pm, _, rfl, _, _, rfl, rfl, b, i, by show [V.int (b : Nat), V.int ((1 : Int) + (i : Int) - 1)] = _; rw [show ((1 : Int) + (i : Int) - 1) = (i : Int) by omega], hb2, by omega, ?_⟩
    refine ⟨_, rfl, .inl ⟨rfl, _, SqL.of hx1⟩, ?_⟩
    refine ⟨_, rfl, a, C, dx, _, _, rfl, e1.at_ _ _ ha0, c.cl, c.nF, gr_F b pg pm, _, _, rfl, ⟨by omega, by omega, by omega, by omega⟩, fun Dl hDl => ?_⟩
    rw [show (((b : Nat) : Int) - 1).toNat = b - 1 by omega]
    refine lcmR (n := b - 1) (lo := 1) (fun f y H' => ∃ q, y = .ref q ∧ H' q = some (.tup (trV (i, nxt g (run g b 0) (1 + f), (0 * b + (1 + f)) * b ^ i)))) hDl (by omega) (fun x => rfl) (fun k y Ha Hb ⟨acc, hacc⟩ kp ⟨q, e, h⟩ => ⟨q, e, kp _ _ (fun z => by rw [z, hacc] at h; cases h) h⟩) ?_ ?_
    · intro f H2 hf e2 _ Qk hQ
      have e12 := e1.trans e2
      obtain ⟨q, r, g1, g2, g3⟩ := goal 0 (1 + f) (Nat.zero_le _) (by omega) (.inr (by omega))
      have ef : (1 : Int) + (f : Int) = ((1 + f : Nat) : Int) := by omega
      refine ⟨_, rfl, _, _, rfl, rfl, _, rfl, a, C, dx, _, _, rfl, e12.at_ _ _ ha0, c.cl, c.nG, gr_G b pg pm, pg, _, 0, .ref q, rfl, rfl, SqL.of (e12.at_ _ _ hr10), atI_nat (j := 0) g1, _, rfl, q, _, _, .int (nxt g 0 (1 + f) : Nat), rfl, rfl, SqL.of (e12.at_ _ _ g2), by rw [ef]; exact atI_nat g3, ?_⟩
      refine ⟨_, rfl, _, rfl, _, _, rfl, rfl, wide_mul (a := 10) (b := 16001) (by simp; omega) (by simpa using pow_small (b := b) (t := i) hb2 (by omega)) (by decide) (by decide) (by decide), ?_⟩
      refine ⟨by show 3 ≤ sizeLine; decide, fun pt hpt => hQ _ _ (Sm.new hpt) ⟨pt, rfl, ?_⟩⟩
      rw [upd_same, run_zero]
      show some (HO.tup [V.int ((1 : Int) + (i : Int) - 1), V.int (nxt g 0 (1 + f) : Nat), V.int (((1 : Int) + (f : Int)) * ((b ^ i : Nat) : Int))]) = some (HO.tup [V.int (i : Nat), V.int (nxt g 0 (1 + f) : Nat), V.int (((0 * b + (1 + f)) * b ^ i : Nat) : Int)])
      rw [show ((1 : Int) + (i : Int) - 1) = (i : Int) by omega, ef, Nat.zero_mul, Nat.zero_add]
      simp
    · intro ys H2 hyl hys hD2 e2
      have hx2 := e2.at_ _ _ hx1
      refine ⟨fd, Dl, xs, ys, rfl, rfl, hx2, hD2, sz_le (by have := htr.1; omega), ?_⟩
      have nD : Dl ≠ fd := fun z => by rw [z, hx1] at hDl; cases hDl
      have keep : ∀ b' zs, H2 b' = some (.tup zs) → (upd H2 fd (.lst (xs ++ ys))) b' = some (.tup zs) := fun b' zs h => by rw [upd_ne fun z => by rw [z, hx2] at h; cases h]; exact h
      have new : TrAre (upd H2 fd (.lst (xs ++ ys))) ys ((List.range (b - 1)).map fun j => (i, nxt g (run g b 0) (1 + j), (0 * b + (1 + j)) * b ^ i)) := by
        refine ⟨by rw [hyl]; simp, fun k x t a c => ?_⟩
        obtain ⟨q, e, h⟩ := hys k x a
        have hk : k < b - 1 := by
          have := (List.getElem?_eq_some_iff.mp a).1
          omega
        rw [List.getElem?_map, List.getElem?_range hk] at c
        rw [← Option.some.inj c]
        exact ⟨q, e, keep _ _ h⟩
      have tl := tile_from (g := g) (b := b) (q := 0) (lo := 1) (l := i) hb (.inr (by omega)) (b - 1) (by omega)
      rw [show 0 * b + 1 = 1 by omega, Nat.one_mul, show 1 + (b - 1) = b by omega] at tl
      refine ⟨_, _, _, xs ++ ys, ts ++ _, rfl, (e1.trans e2).mut hfd, upd_same, (htr.keep fun b' zs h => keep _ _ (e2.at_ _ _ h)).append new, ?_, ?_, ?_⟩
      · have e : b ^ (i + 1) = b * b ^ i := by rw [Nat.pow_succ, Nat.mul_comm]
        rw [e]
        exact htl.append tl
      · rw [List.length_append, List.length_map, List.length_range]; omega
      · intro t ht
        rcases List.mem_append.mp ht with h | h
        · exact hlev t h
        · obtain ⟨j, _, rfl⟩ := List.mem_map.mp h
          show i < L
          omega
  · rintro σ H1' ⟨o5, o6, o7, xs, ts, rfl, e1, hx1, htr, htl, hlen, hlev⟩
    refine ⟨by show 2 ≤ sizeLine; decide, fun p0 hp0 => ⟨p0, _, rfl, SqT.of upd_same, rfl, _, _, rfl, _, _, rfl, rfl, ?_⟩⟩
    have e00 := Sm.new (o := .tup [V.int 0, V.int 0]) hp0
    have e1 := e1.trans e00
    have hx1 := e00.at_ _ _ hx1
    have htr := htr.sm e00
    generalize upd H1' p0 (.tup [V.int 0, V.int 0]) = H1 at *
    have hl1 := e1.at_ _ _ hl0
    have qsz : ∀ i, qAt b n i < 2 ^ 3000 := fun i => Nat.lt_of_le_of_lt (qAt_le n i) hn2
    refine ⟨_, rfl, l, nV (figs b n), rfl, SqL.of hl1, for_it (walk_enum (xs := nV (figs b n))) (fun i σ H' => ∃ (o5 o6 o7 o10 o11 : Option V) (xs : List V) (ts : List (Nat × Nat × Nat)), σ = [some (.ref a), some (.int n), some (.ref l), some (.int L), some (.ref fd), o5, o6, o7, some (.int (run g b (qAt b n i) : Nat)), some (.int (qAt b n i : Nat)), o10, o11] ∧
      Sm H0 H' ∧ H' fd = some (.lst xs) ∧ TrAre H' xs ts ∧ Tile g b 1 ts (eAt b n i) ∧ ts.length ≤ 16 * L + 16 * i ∧ ∀ t ∈ ts, t.1 < L)
      ⟨_, _, _, _, _, xs, ts, by rw [qAt_zero hb, run_zero] <;> rfl, e1, hx1, htr, by unfold eAt; rw [if_pos rfl, hL]; exact htl, by omega, hlev⟩ (fun i σ H' _ ⟨_, _, _, _, _, _, _, _, e, _⟩ => SqL.of (e.at_ _ _ hl0)) ?_ ?_⟩
    · rintro i x σ H2 H3 hi ⟨o5, o6, o7, o10, o11, xs, ts, rfl, e2, hx2, htr2, htl2, hlen2, hlev2⟩ ⟨Tt, u, v, rfl, hTt, rfl, hu, hv⟩
      rw [hll] at hi
      have hu := Option.some.inj hu
      have hv : (nV (figs b n))[i]? = some v := hv
      obtain ⟨fg, hfg⟩ : ∃ fg, (figs b n)[i]? = some fg := ⟨_, List.getElem?_eq_getElem (by omega)⟩
      rw [List.getElem?_map, hfg] at hv
      have hv := Option.some.inj hv
      subst hu hv
      obtain ⟨hq1, hfb⟩ := qAt_succ hb hfg
      have e3 := Sm.new (o := .tup [V.int (i : Nat), V.int (fg : Nat)]) hTt
      refine ⟨Tt, _, rfl, SqT.of upd_same, rfl, _, _, rfl, _, _, rfl, rfl, ?_⟩
      have e23 := e2.trans e3
      have hx3 := e3.at_ _ _ hx2
      have htr3 := htr2.sm e3
      generalize upd H2 Tt (.tup [V.int (i : Nat), V.int (fg : Nat)]) = H3 at *
      have hi' : (((L : Nat) : Int) - 1 - (i : Int)) = ((L - 1 - i : Nat) : Int) := by omega
      refine ⟨_, rfl, a, C, dx, _, _, rfl, e23.at_ _ _ ha0, c.cl, c.nF, gr_F b pg pm, _, rfl, _, _, rfl, rfl, _, rfl, _, _, rfl, rfl, b, L - 1 - i, by show [V.int (b : Nat), V.int (((L : Nat) : Int) - 1 - (i : Int))] = _; rw [hi'], hb2, by omega, ?_⟩
      -- the figures ahead
      obtain ⟨lo, hlo⟩ : ∃ lo : Nat, lo = if i = 0 then 1 else 0 := ⟨_, rfl⟩
      have hlof : lo ≤ fg := by
        rw [hlo]
        split
        · rename_i h; subst h; exact qAt_first hb hn hfg
        · omega
      have hlob : lo ≤ b := by omega
      have h0 : 0 < qAt b n i ∨ 0 < lo := by
        by_cases h : i = 0
        · right; rw [hlo, if_pos h]; omega
        · left; exact qAt_pos hb hn (Nat.pos_of_ne_zero h)
      have est : eAt b n i = (qAt b n i * b + lo) * b ^ (L - 1 - i) := by
        unfold eAt
        rw [hlo, hL]
        by_cases h : i = 0
        · subst h
          rw [if_pos rfl, if_pos rfl, qAt_zero hb]
          simp
        · rw [if_neg h, if_neg h, Nat.add_zero]
          obtain ⟨k, hk⟩ : ∃ k, L - i = k + 1 := ⟨L - i - 1, by omega⟩
          rw [show L - 1 - i = k by omega, hk, Nat.pow_succ, Nat.mul_comm (b ^ k) b, Nat.mul_assoc]
      have een : eAt b n (i + 1) = (qAt b n i * b + lo + (fg - lo)) * b ^ (L - 1 - i) := by
        unfold eAt
        rw [if_neg (by omega), hL, hq1, show L - (i + 1) = L - 1 - i by omega, show qAt b n i * b + lo + (fg - lo) = qAt b n i * b + fg by omega]
      refine ⟨_, rfl, rfl, .inr ⟨_, rfl, _, rfl, (lo : Int), (fg : Int), ?_, ⟨by omega, by omega, by omega, by omega⟩, ?_⟩⟩
      · show [V.int (if decide (V.int ((i : Nat) : Int) = V.int 0) = true then 1 else 0), V.int (fg : Nat)] = _
        rw [show (V.int (0 : Int)) = V.int ((0 : Nat) : Int) from rfl, dec_int, hlo]
        by_cases h : i = 0
        · rw [decide_eq_true h, if_pos rfl, if_pos h]; rfl
        · rw [decide_eq_false h, if_neg (by decide), if_neg h]; rfl
      rw [show ((fg : Int) - (lo : Int)).toNat = fg - lo by omega]
      refine for_range (lo := (lo : Int)) (n := fg - lo) (fun j σ H' => ∃ (o11 : Option V) (xs : List V) (ts : List (Nat × Nat × Nat)), σ = [some (.ref a), some (.int n), some (.ref l), some (.int L), some (.ref fd), o5, some (.int (b ^ (L - 1 - i) : Nat)), some (.int (fg : Nat)), some (.int (run g b (qAt b n i) : Nat)), some (.int (qAt b n i : Nat)), some (.int (i : Nat)), o11] ∧
        Sm H0 H' ∧ H' fd = some (.lst xs) ∧ TrAre H' xs ts ∧ Tile g b 1 ts ((qAt b n i * b + lo + j) * b ^ (L - 1 - i)) ∧ ts.length ≤ 16 * L + 16 * i + j ∧ ∀ t ∈ ts, t.1 < L)
        ⟨_, xs, ts, rfl, e23, hx3, htr3, by rw [Nat.add_zero, ← est]; exact htl2, by omega, hlev2⟩ ?_ ?_
      · rintro j σ H4 hj ⟨o11, xs, ts, rfl, e4, hx4, htr4, htl4, hlen4, hlev4⟩
        have ej : (lo : Int) + (j : Int) = ((lo + j : Nat) : Int) := by omega
        rw [ej]
        obtain ⟨q, r, g1, g2, g3⟩ := goal (run g b (qAt b n i)) (lo + j) (run_le _) (by omega) (by
          rcases h0 with h | h
          · exact .inl (run_pos _ h)
          · exact .inr (by omega))
        refine ⟨_, rfl, .inl ⟨rfl, _, SqL.of hx4⟩, ?_⟩
        refine ⟨_, rfl, _, _, rfl, rfl, _, rfl, _, _, rfl, rfl, _, rfl, a, C, dx, _, _, rfl, e4.at_ _ _ ha0, c.cl, c.nG, gr_G b pg pm, _, rfl, pg, _, _, .ref q, rfl, rfl, SqL.of (e4.at_ _ _ hr10), atI_nat g1, _, rfl, q, _, _, _, rfl, rfl, SqL.of (e4.at_ _ _ g2), atI_nat g3, ?_⟩
        have w1 : CMulW ((qAt b n i : Nat) : Int) (b : Int) := wide_mul (a := 3000) (b := 10) (by simpa using qsz i) (by simp; omega) (by decide) (by decide) (by decide)
        have hsum : qAt b n i * b + (lo + j) < 2 ^ 3010 := by
          have h1 : qAt b n i * b ≤ 2 ^ 3000 * 16 := Nat.mul_le_mul (Nat.le_of_lt (qsz i)) hb2
          have h2 : (2 : Nat) ^ 3010 = 2 ^ 3000 * 1024 := by rw [show (1024 : Nat) = 2 ^ 10 from rfl, ← Nat.pow_add]
          have h3 : 0 < (2 : Nat) ^ 3000 := Nat.pow_pos (by decide)
          omega
        refine ⟨_, rfl, _, rfl, a, C, dx, _, _, rfl, e4.at_ _ _ ha0, c.cl, c.nF, gr_F b pg pm, _, _, rfl, rfl, w1, _, rfl, _, _, rfl, rfl, _, rfl, _, _, rfl, rfl, ?_, ?_⟩
        · have e : ((qAt b n i : Nat) : Int) * (b : Int) + ((lo + j : Nat) : Int) = ((qAt b n i * b + (lo + j) : Nat) : Int) := by simp
          rw [e]
          exact wide_mul (a := 3010) (b := 16001) (by rw [Int.natAbs_natCast]; exact hsum) (by simpa using pow_small (b := b) (t := L - 1 - i) hb2 (by omega)) (by decide) (by decide) (by decide)
        refine ⟨by show 3 ≤ sizeLine; decide, fun pt hpt => ?_⟩
        have hx5 : (upd H4 pt (.tup [V.int (((L : Nat) : Int) - 1 - (i : Int)), V.int (nxt g (run g b (qAt b n i)) (lo + j) : Nat), V.int ((((qAt b n i : Nat) : Int) * (b : Int) + ((lo + j : Nat) : Int)) * ((b ^ (L - 1 - i) : Nat) : Int))])) fd = some (.lst xs) := upd_get hx4 hpt
        refine ⟨fd, xs, _, rfl, rfl, hx5, by have := htr4.1; exact sz_lt (by omega), ?_⟩
        have npt : pt ≠ fd := fun z => by rw [z, hx4] at hpt; cases hpt
        have keep : ∀ b' zs, H4 b' = some (.tup zs) → (upd (upd H4 pt (.tup [V.int (((L : Nat) : Int) - 1 - (i : Int)), V.int (nxt g (run g b (qAt b n i)) (lo + j) : Nat), V.int ((((qAt b n i : Nat) : Int) * (b : Int) + ((lo + j : Nat) : Int)) * ((b ^ (L - 1 - i) : Nat) : Int))])) fd (.lst (xs ++ [.ref pt]))) b' = some (.tup zs) := fun b' zs h => by
          rw [upd_ne fun z => by rw [z, hx4] at h; cases h]
          exact upd_get h hpt
        have tl := tile_from (g := g) (b := b) (q := qAt b n i) (lo := lo + j) (l := L - 1 - i) hb (by rcases h0 with h | h; exact .inl h; exact .inr (by omega)) 1 (by omega)
        rw [show List.range 1 = [0] from rfl, List.map_cons, List.map_nil, Nat.add_zero] at tl
        refine ⟨_, xs ++ [.ref pt], ts ++ [(L - 1 - i, nxt g (run g b (qAt b n i)) (lo + j), (qAt b n i * b + (lo + j)) * b ^ (L - 1 - i))], rfl, (e4.trans (Sm.new hpt)).mut hfd, upd_same, (htr4.keep keep).append (TrAre.one ?_), ?_, by rw [List.length_append, List.length_singleton]; omega, ?_⟩
        · rw [upd_ne npt, upd_same]
          show some (HO.tup [V.int (((L : Nat) : Int) - 1 - (i : Int)), V.int (nxt g (run g b (qAt b n i)) (lo + j) : Nat), V.int ((((qAt b n i : Nat) : Int) * (b : Int) + ((lo + j : Nat) : Int)) * ((b ^ (L - 1 - i) : Nat) : Int))]) = some (HO.tup [V.int ((L - 1 - i : Nat) : Int), V.int (nxt g (run g b (qAt b n i)) (lo + j) : Nat), V.int (((qAt b n i * b + (lo + j)) * b ^ (L - 1 - i) : Nat) : Int)])
          rw [hi', show ((qAt b n i : Nat) : Int) * (b : Int) + ((lo + j : Nat) : Int) = ((qAt b n i * b + (lo + j) : Nat) : Int) by simp]
          simp
        · rw [show qAt b n i * b + lo + j = qAt b n i * b + (lo + j) by omega] at htl4
          rw [show qAt b n i * b + lo + (j + 1) = qAt b n i * b + (lo + j) + 1 by omega]
          exact htl4.append tl
        · intro t ht
          rcases List.mem_append.mp ht with h | h
          · exact hlev4 t h
          · rw [List.mem_singleton.mp h]
            show L - 1 - i < L
            omega
      · rintro σ H4 ⟨o11, xs, ts, rfl, e4, hx4, htr4, htl4, hlen4, hlev4⟩
        obtain ⟨q, r, g1, g2, g3⟩ := goal (run g b (qAt b n i)) fg (run_le _) hfb (by
          rcases h0 with h | h
          · exact .inl (run_pos _ h)
          · exact .inr (by omega))
        have w1 : CMulW ((qAt b n i : Nat) : Int) (b : Int) := wide_mul (a := 3000) (b := 10) (by simpa using qsz i) (by simp; omega) (by decide) (by decide) (by decide)
        refine ⟨_, rfl, a, C, dx, _, _, rfl, e4.at_ _ _ ha0, c.cl, c.nG, gr_G b pg pm, _, rfl, pg, _, _, .ref q, rfl, rfl, SqL.of (e4.at_ _ _ hr10), atI_nat g1, _, rfl, q, _, _, _, rfl, rfl, SqL.of (e4.at_ _ _ g2), atI_nat g3, ?_⟩
        refine ⟨_, rfl, _, rfl, a, C, dx, _, _, rfl, e4.at_ _ _ ha0, c.cl, c.nF, gr_F b pg pm, _, _, rfl, rfl, w1, _, rfl, _, _, rfl, rfl, _, _, rfl, ?_⟩
        refine ⟨o5, some (.int (b ^ (L - 1 - i) : Nat)), some (.int (fg : Nat)), some (.int (i : Nat)), o11, xs, ts, ?_, e4, hx4, htr4, by rw [een]; exact htl4, by omega, hlev4⟩
        rw [hq1, run_snoc hb hfb (by
          rcases h0 with h | h
          · exact .inl h
          · by_cases hz : i = 0
            · exact .inr (by rw [hlo, if_pos hz] at hlof; omega)
            · exact .inl (qAt_pos hb hn (Nat.pos_of_ne_zero hz)))]
        rw [show ((qAt b n i * b + fg : Nat) : Int) = ((qAt b n i : Nat) : Int) * (b : Int) + (fg : Int) by simp]
        rfl
    · rintro σ H2 ⟨o5, o6, o7, o10, o11, xs, ts, rfl, e2, hx2, htr2, htl2, hlen2, hlev2⟩
      rw [hll] at htl2 hlen2
      rw [hll]
      have een : eAt b n L = n := by
        unfold eAt
        rw [if_neg (by omega), hL, Nat.sub_self, Nat.pow_zero, Nat.mul_one, ← hL, qAt_all]
      have eqn : qAt b n L = n := by rw [← hL, qAt_all]
      rw [een] at htl2
      rw [eqn]
      refine ⟨_, rfl, .inl ⟨rfl, _, SqL.of hx2⟩, _, rfl, _, rfl, by show 3 ≤ sizeLine; decide, fun pt hpt => ?_⟩
      have hx5 : (upd H2 pt (.tup [V.int 0, V.int (run g b n : Nat), V.int (n : Nat)])) fd = some (.lst xs) := upd_get hx2 hpt
      refine ⟨fd, xs, _, rfl, rfl, hx5, by have := htr2.1; exact sz_lt (by omega), ?_⟩
      have npt : pt ≠ fd := fun z => by rw [z, hx2] at hpt; cases hpt
      refine ⟨_, rfl, k_ fd (xs ++ [.ref pt]) (ts ++ [(0, run g b n, n)]) _ hfd0 (e0.trans ((e2.trans (Sm.new hpt)).mut hfd)) upd_same (TrAre.append (htr2.keep fun b' zs h => ?_) (TrAre.one ?_)) (htl2.append ⟨rfl, ⟨n, hn, by simp, rfl⟩, by show n + b ^ 0 = n + 1; rw [Nat.pow_zero]⟩) (by rw [List.length_append, List.length_singleton, hL]; omega) fun t ht => ?_⟩
      · rw [upd_ne fun z => by rw [z, hx2] at h; cases h]
        exact upd_get h hpt
      · rw [upd_ne npt, upd_same]; rfl
      · rw [hL]
        rcases List.mem_append.mp ht with h | h
        · exact hlev2 t h
        · rw [List.mem_singleton.mp h]
          show 0 < L
          omega
end
end Bz
end
section
set_option Elab.async false
set_option linter.all false
set_option maxRecDepth 100000
set_option maxHeartbeats 4000000
namespace Bz
open PySem PySem.Spec PyProof.Rows L2 LamX NdefX
theorem MarksAre.keep {M : Type} [DecidableEq M] {km : KI M} {H H' : Hp} {ms : List V} {mk : Nat → M} {m : Nat} (h : MarksAre km H ms mk m) (e : ∀ b ys, H b = some (.tup ys) → H' b = some (.tup ys)) : MarksAre km H' ms mk m :=
  ⟨h.len, fun s a c => let ⟨v, q, r⟩ := h.at_ s a c; ⟨v, q, km.keep e r⟩⟩
theorem split_last {α : Type} {l : List α} {i : Nat} {x : α} (hl : l.length = i + 1) (h : l[i]? = some x) : l = l.take i ++ [x] := by
  apply List.ext_getElem?
  intro j
  by_cases hj : j < i
  · rw [List.getElem?_append_left (by rw [List.length_take]; omega), List.getElem?_take, if_pos hj]
  · rw [List.getElem?_append_right (by rw [List.length_take]; omega), List.length_take, Nat.min_eq_left (by omega)]
    by_cases hj2 : j = i
    · rw [hj2, h, Nat.sub_self]; rfl
    · rw [List.getElem?_eq_none (by omega), List.getElem?_eq_none (by simp; omega)]
section
variable {α : Type} [DecidableEq α]
/-- a level's list -/
def LevRow (ka : KI α) (H : Hp) (p : Addr) (f : Nat → α) (m : Nat) : Prop := ∃ vs, H p = some (.lst (.non :: vs)) ∧ MarksAre ka H vs f m
def LevAt (ka : KI α) (H : Hp) (p : Addr) (L : Nat → Nat → α) (m many : Nat) : Prop := ∃ as : List Addr, H p = some (.lst (as.map V.ref)) ∧ as.length = many ∧ ∀ (i : Nat) (q : Addr), as[i]? = some q → LevRow ka H q (L i) m
theorem LevRow.imm {ka : KI α} {H H' : Hp} {p : Addr} {f : Nat → α} {m : Nat} (h : LevRow ka H p f m) (i : ∀ a o, H a = some o → Sol o → H' a = some o) : LevRow ka H' p f m := by
  obtain ⟨vs, h1, h2⟩ := h
  exact ⟨vs, i _ _ h1 True.intro, h2.keep fun b ys e => i _ _ e True.intro⟩
theorem LevAt.imm {ka : KI α} {H H' : Hp} {p : Addr} {L : Nat → Nat → α} {m many : Nat} (h : LevAt ka H p L m many) (i : ∀ a o, H a = some o → Sol o → H' a = some o) : LevAt ka H' p L m many := by
  obtain ⟨as, h1, h2, h3⟩ := h
  exact ⟨as, i _ _ h1 True.intro, h2, fun j q e => (h3 j q e).imm i⟩
theorem LevAt.sm {ka : KI α} {H H' : Hp} {p : Addr} {L : Nat → Nat → α} {m many : Nat} (h : LevAt ka H p L m many) (e : Sm H H') : LevAt ka H' p L m many := h.imm fun a o q _ => e.at_ a o q
def spJn (ka : KI α) (jn : α → α → α) : Sp := fun vs H Q _ => ∃ (v1 v2 : V) (x y : α), vs = [v1, v2] ∧ ka.kv x H v1 ∧ ka.kv y H v2 ∧ ∀ H' v', Sm H H' → ka.kv (jn x y) H' v' → Q v' H'
end
section
variable {P : Program} {w : World} {K : PySem.W.Frag} {mg : Str → Option Value} {base : Heap}
abbrev N_stretch_levels : List Str := ["grid", "of_mark", "joined", "many", "mark", "levels", "level", "last", "row", "state", "found", "later"]
theorem sc_stretch_levels : FnScope N_stretch_levels ["grid", "of_mark", "joined", "many"] (defScope s_stretch_levels) := ⟨rfl, rfl, rfl, by decide +kernel, rfl, by decide +kernel, by decide +kernel⟩
theorem hb_stretch_levels : HB s_stretch_levels "stretch_levels" "stretch_levels" ["grid", "of_mark", "joined", "many"] := fun _ _ _ _ _ _ us hl => match us, hl with | [_, _, _, _], _ => rfl

def spStrLev {M α : Type} [DecidableEq M] [DecidableEq α] (km : KI M) (ka : KI α) (C : Addr) (P : Program) (w : World) (K : PySem.W.Frag) (mg : Str → Option Value) (base : Heap) (kc : Nat) : Sp := fun vs H Q _ => ∃ (a fo fj : Addr) (b m many : Nat) (g : Rows) (ms : List V) (mk : Nat → M) (om : M → α) (jn : α → α → α), vs = [.ref a, .ref fo, .ref fj, .int many] ∧
  GridAt C H a b g ms ∧ MarksAre km H ms mk m ∧ Wf b m g ∧ 2 ≤ b ∧ b ≤ 16 ∧ m ≤ 50000 ∧ 1 ≤ many ∧ many ≤ 4000 ∧ Clo P w K mg base kc H fo (spMark km ka (fun _ => True) om) ∧ Clo P w K mg base kc H fj (spJn ka jn) ∧
  ∀ p H', H p = none → Sm H H' → LevAt ka H' p (lev g b (fun s => om (mk s)) jn) m many → Q (.ref p) H'
theorem g_stretch_levels {M α : Type} [DecidableEq M] [DecidableEq α] (km : KI M) (ka : KI α) {f C : Addr} {kc : Nat} (T : Bt mg) (c : GrC K C) (D : Df K "stretch_levels" "stretch_levels" s_stretch_levels f) (m : mg "stretch_levels" = some (.ref f)) :
    Fn P w K mg base CXN (kc + 1) "stretch_levels" ["grid", "of_mark", "joined", "many"] (spStrLev km ka C P w K mg base kc) := by
  refine D.fn m sc_stretch_levels hb_stretch_levels (fun vs H Q E ⟨a, fo, fj, b, m, many, g, ms, mk, om, jn, e, _⟩ => by rw [e]; rfl) fun cdv A outer s0 H vs Q E hrC ⟨a, fo, fj, b, m, many, g, ms, mk, om, jn, e, hg, hmk, wf, hb, hb2, hm5, hm1, hm4, hfo, hfj, k_⟩ => ?_
  subst e
  refine ⟨_, (pss_cons (ps_set (i := 5) sc_stretch_levels.nd rfl (Or.inl rfl) (pe_lst (pa_cons (pe_lst (pa_cons pe_non (pa_starK (K := K) rfl (pe_lc (own := [("mark", 4)]) (g := gName 4) (tt := tYes) rfl sc_stretch_levels.nd (pi_listK (K := K) rfl (pe_slice (sl_listK (K := K) rfl) (pe_fldK (K := K) rfl (pv 0) rfl) (po_some pe_int) po_none)) (blkOk_by (own := [("mark", 4)]) (N := N_stretch_levels) (sc := defScope s_stretch_levels) (by decide +kernel)) (fun _ _ _ _ _ => (pg_name (i := 4) sc_stretch_levels.nd rfl (Or.inl rfl))) (fun _ _ _ _ _ => pts_nil) (fun _ _ _ _ _ => (pe_callC (P := P) (w := w) (K := K) (mg := mg) (base := base) (i := 1) ⟨rfl, rfl, rfl, rfl, rfl⟩ hrC rfl (by first | exact Or.inl rfl | exact Or.inr (Or.inl rfl) | exact Or.inr (Or.inr rfl)) (pa_cons (pv 4) pa_nil)))) pa_nil))) pa_nil)))
    (pss_cons (ps_for PassesOwn.never rfl (pi_range2 rfl T.range (pa_cons pe_int (pa_cons (pv 3) pa_nil))) (pg_name (i := 6) sc_stretch_levels.nd rfl (Or.inl rfl)) (pss_cons (ps_par (i := 7) (j := 8) (by rfl) sc_stretch_levels.nd rfl rfl (by decide) rfl rfl (pa_cons (pe_ix (ix_listK (K := K) rfl) (pv 5) (pe_un un_neg pe_int) (fun _ _ => rfl)) (pa_cons (pe_lst (pa_cons pe_non pa_nil)) pa_nil)) (by rfl))
    (pss_cons (ps_for PassesOwn.never rfl (pi_range2 rfl T.range (pa_cons pe_int (pa_cons (pe_callB (call_len_seqK (K := K) rfl) (by rfl) T.len PySem.boot_len (pa_cons (pe_fldK (K := K) rfl (pv 0) rfl) pa_nil)) pa_nil))) (pg_name (i := 9) sc_stretch_levels.nd rfl (Or.inl rfl)) (pss_cons (ps_set (i := 10) sc_stretch_levels.nd rfl (Or.inl rfl) (pe_ix (ix_listK (K := K) rfl) (pv 7) (pe_ix (ix_listK (K := K) rfl) (pe_ix (ix_listK (K := K) rfl) (pe_fldK (K := K) rfl (pv 0) rfl) (pv 9) (fun _ _ => rfl)) pe_int (fun _ _ => rfl)) (fun _ _ => rfl)))
    (pss_cons (ps_for PassesOwn.never rfl (pi_listK (K := K) rfl (pe_slice (sl_listK (K := K) rfl) (pe_ix (ix_listK (K := K) rfl) (pe_fldK (K := K) rfl (pv 0) rfl) (pv 9) (fun _ _ => rfl)) (po_some pe_int) po_none)) (pg_name (i := 11) sc_stretch_levels.nd rfl (Or.inl rfl)) (pss_one (ps_set (i := 10) sc_stretch_levels.nd rfl (Or.inl rfl) (pe_callC (P := P) (w := w) (K := K) (mg := mg) (base := base) (i := 2) ⟨rfl, rfl, rfl, rfl, rfl⟩ hrC rfl (by first | exact Or.inl rfl | exact Or.inr (Or.inl rfl) | exact Or.inr (Or.inr rfl)) (pa_cons (pv 10) (pa_cons (pe_ix (ix_listK (K := K) rfl) (pv 7) (pv 11) (fun _ _ => rfl)) pa_nil))))))
    (pss_one (ps_expr (pe_bm PySem.F.plainAttrs_list PySem.F.slot_list_append PySem.F.type_list_append mt_append (pv 8) (pa_cons (pv 10) pa_nil)))))))
    (pss_one (ps_expr (pe_bm PySem.F.plainAttrs_list PySem.F.slot_list_append PySem.F.type_list_append mt_append (pv 5) (pa_cons (pv 8) pa_nil)))))))
    (pss_one (ps_ret (pv 5))))), ?_⟩
  obtain ⟨dx, pg, pm, ha, ⟨as0, hr1, hr2, hr3⟩, hm⟩ := id hg
  obtain ⟨Lv, hLv⟩ : ∃ Lv, lev g b (fun s => om (mk s)) jn = Lv := ⟨_, rfl⟩
  rw [hLv] at k_
  have lev0 : ∀ s, Lv 0 s = om (mk s) := fun s => by rw [← hLv]; rfl
  have levS : ∀ l s, Lv (l + 1) s = (List.range (b - 1)).foldl (fun acc f => jn acc (Lv l (nxt g s (f + 1)))) (Lv l (nxt g s 0)) := fun l s => by rw [← hLv]; rfl
  refine ⟨_, rfl, a, C, dx, _, _, rfl, ha, c.cl, c.nM, gr_M b pg pm, _, rfl, pm, _, rfl, SqL.of hm, fun ps hps => ?_⟩
  rw [cut_tail]
  have e1 : Sm H (upd H ps (.lst ms)) := Sm.new hps
  refine ⟨ps, rfl, ⟨_, SqL.of upd_same⟩, fun Dl hDl => lcm (K := K) (xs := ms) (fun i y H' => i < m ∧ ka.kv (om (mk (i + 1))) H' y) hDl (SqL.of upd_same) (by rw [hmk.len]; omega) (fun x => rfl) (fun k y Ha Hb ⟨acc, hacc⟩ kp ⟨h1, h2⟩ => ⟨h1, ka.keep (fun b' ys e => kp _ _ (fun z => by rw [z, hacc] at e; cases e) e) h2⟩) ?_ ?_⟩
  · intro i v H3 hi e3 _ Qk hQ
    have e13 := e1.trans e3
    have hi2 : i < m := by
      have := (List.getElem?_eq_some_iff.mp hi).1
      rw [hmk.len] at this
      exact this
    obtain ⟨v', q1, q2⟩ := hmk.at_ (i + 1) (by omega) (by omega)
    rw [Nat.add_sub_cancel, hi] at q1
    have ev := Option.some.inj q1
    subst ev
    exact ⟨fo, rfl, ⟨_, hfo.ext e13.ext⟩, _, rfl, _, hfo.ext e13.ext, v, mk (i + 1), rfl, km.keep (fun b' ys e => e13.at_ _ _ e) q2, True.intro, fun H4 v' e4 hv' => hQ v' H4 e4 ⟨hi2, hv'⟩⟩
  intro ys H3 hyl hys hD3 e3
  refine ⟨Dl, ys, rfl, .inr (SqL.of hD3), ?_⟩
  refine ⟨by rw [List.append_nil, List.length_cons, hyl, hmk.len]; exact sz_le (by omega), fun pn hpn => ?_⟩
  rw [List.append_nil]
  have e4 : Sm H3 (upd H3 pn (.lst (.non :: ys))) := Sm.new hpn
  have row0 : LevRow ka (upd H3 pn (.lst (.non :: ys))) pn (Lv 0) m := by
    refine ⟨ys, upd_same, by rw [hyl, hmk.len], fun s h1 h2 => ?_⟩
    obtain ⟨v, hv⟩ : ∃ v, ys[s - 1]? = some v := ⟨_, List.getElem?_eq_getElem (by rw [hyl, hmk.len]; omega)⟩
    obtain ⟨_, q⟩ := hys (s - 1) v hv
    rw [Nat.sub_add_cancel h1] at q
    exact ⟨v, hv, by rw [lev0]; exact ka.keep (fun b' ys e => e4.at_ _ _ e) q⟩
  refine ⟨by show 1 ≤ sizeLine; decide, fun pl hpl => ?_⟩
  have e14 := e1.trans (e3.trans e4)
  generalize upd H3 pn (.lst (.non :: ys)) = H4 at *
  have npl : pn ≠ pl := fun z => by
    obtain ⟨vs, h, _⟩ := row0
    rw [z, hpl] at h; cases h
  have hfo4 := hfo.ext e14.ext
  have hfj4 := hfj.ext e14.ext
  have ha4 := e14.at_ _ _ ha
  have hr14 := e14.at_ _ _ hr1
  have hr34 : ∀ (i : Nat) (r : List (Option Nat)), g[i]? = some r → ∃ q, as0[i]? = some q ∧ H4 q = some (.lst (r.map oV)) := fun i r h => let ⟨q, x, y⟩ := hr3 i r h; ⟨q, x, e14.at_ _ _ y⟩
  have hpl0 : H pl = none := e14.free hpl
  refine ⟨_, rfl, _, _, rfl, ⟨by omega, by omega, by omega, by omega⟩, for_range (lo := 1) (n := (((many : Nat) : Int) - 1).toNat) (fun i σ H' => ∃ (o6 o7 o8 o9 o10 o11 : Option V) (as : List Addr), σ = [some (.ref a), some (.ref fo), some (.ref fj), some (.int many), none, some (.ref pl), o6, o7, o8, o9, o10, o11] ∧
    Sm H4 H' ∧ H' pl = some (.lst (as.map V.ref)) ∧ as.length = i + 1 ∧ ∀ (j : Nat) (q : Addr), as[j]? = some q → q ≠ pl ∧ LevRow ka H' q (Lv j) m)
    ⟨none, none, none, none, none, none, [pn], rfl, Sm.new hpl, upd_same, rfl, fun j q h => ?_⟩ ?_ ?_⟩
  · cases j with
    | zero =>
      have h : pn = q := Option.some.inj h
      subst h
      exact ⟨npl, row0.imm fun a o h _ => upd_get h hpl⟩
    | succ j => simp at h
  · rintro i σ Hs hi ⟨o6, o7, o8, o9, o10, o11, as, rfl, es, hpls, hal, hrows⟩
    have hi2 : i + 1 < many := by omega
    obtain ⟨ql, hql⟩ : ∃ q, as[i]? = some q := ⟨_, List.getElem?_eq_getElem (by omega)⟩
    obtain ⟨nql, vs, hvs, hmv⟩ := hrows i ql hql
    have hlast : atI (as.map V.ref) (-1) = some (.ref ql) := by
      have h1 : (as.map V.ref)[(as.map V.ref).length - 1]? = some (.ref ql) := by
        rw [List.length_map, hal, Nat.add_sub_cancel, List.getElem?_map, hql] <;> rfl
      obtain ⟨h2, h3⟩ := List.getElem?_eq_some_iff.mp h1
      have := split_last (l := as.map V.ref) (i := i) (by rw [List.length_map, hal]) (by rw [List.getElem?_map, hql] <;> rfl)
      rw [this]
      exact atI_last _ _
    refine ⟨_, rfl, _, rfl, pl, _, _, _, rfl, rfl, SqL.of hpls, hlast, ?_⟩
    refine ⟨by show 1 ≤ sizeLine; decide, fun pr hpr => ⟨_, _, rfl, ?_⟩⟩
    have npr : pr ≠ pl := fun z => by rw [z, hpls] at hpr; cases hpr
    refine ⟨_, rfl, a, C, dx, _, _, rfl, es.at_ _ _ ha4 |> (Sm.new hpr).at_ _ _, c.cl, c.nG, gr_G b pg pm, pg, _, rfl, .inl (SqL.of ((Sm.new hpr).at_ _ _ (es.at_ _ _ hr14))), _, _, rfl, ?_⟩
    have hgl : (as0.map V.ref).length = m + 1 := by rw [List.length_map, hr2, wf.len]
    rw [hgl]
    refine ⟨⟨by omega, by omega, by omega, by omega⟩, ?_⟩
    rw [show (((m + 1 : Nat) : Int) - 1).toNat = m by omega]
    refine for_range (lo := 1) (n := m) (fun t σ H' => ∃ (o9 o10 o11 : Option V) (us : List V), σ = [some (.ref a), some (.ref fo), some (.ref fj), some (.int many), none, some (.ref pl), some (.int (1 + (i : Int))), some (.ref ql), some (.ref pr), o9, o10, o11] ∧
      Sm Hs H' ∧ H' pr = some (.lst (.non :: us)) ∧ MarksAre ka H' us (Lv (i + 1)) t) ⟨_, _, _, [], rfl, Sm.new hpr, upd_same, ⟨rfl, fun s h1 h2 => by omega⟩⟩ ?_ ?_
    · rintro t σ H5 ht ⟨o9, o10, o11, us, rfl, e5, hus, hmu⟩
      have ets : (1 : Int) + (t : Int) = ((t + 1 : Nat) : Int) := by omega
      rw [ets]
      have es5 := es.trans e5
      obtain ⟨r, hr⟩ : ∃ r, g[t + 1]? = some r := ⟨_, List.getElem?_eq_getElem (by rw [wf.len]; omega)⟩
      obtain ⟨q, hq, hq1⟩ := hr34 _ r hr
      have hrl : r.length = b := wf.row _ _ hr
      have hrow : ∀ k, k < b → r[k]? = some (some (nxt g (t + 1) k)) := fun k hk => by
        obtain ⟨t', et, _⟩ := wf.ent (t + 1) k (by omega) hk (.inl (by omega))
        obtain ⟨r', h1, h2⟩ := rows_get et
        rw [hr] at h1
        cases h1
        rw [h2]
        unfold nxt
        rw [et]; rfl
      have nle : ∀ k, k < b → 1 ≤ nxt g (t + 1) k ∧ nxt g (t + 1) k ≤ m := fun k hk => wf.nxt (by omega) hk (.inl (by omega))
      have hmv5 := hmv.keep fun b' zs h => e5.at_ _ _ h
      have hvs5 := e5.at_ _ _ hvs
      have lastv : ∀ k, k < b → ∀ H', Sm H5 H' → ∃ v, (V.non :: vs)[nxt g (t + 1) k]? = some v ∧ ka.kv (Lv i (nxt g (t + 1) k)) H' v := fun k hk H' e => by
        obtain ⟨v, h1, h2⟩ := hmv5.at_ _ (nle k hk).1 (nle k hk).2
        refine ⟨v, ?_, ka.keep (fun b' ys h => e.at_ _ _ h) h2⟩
        obtain ⟨j, hj⟩ : ∃ j, nxt g (t + 1) k = j + 1 := ⟨nxt g (t + 1) k - 1, by have := (nle k hk).1; omega⟩
        rw [hj] at h1 ⊢
        exact h1
      obtain ⟨v0, hv0, hk0⟩ := lastv 0 (by omega) H5 (Sm.refl _)
      refine ⟨_, rfl, _, rfl, a, C, dx, _, _, rfl, es5.at_ _ _ ha4, c.cl, c.nG, gr_G b pg pm, _, rfl, pg, _, _, .ref q, rfl, rfl, SqL.of (es5.at_ _ _ hr14), atI_nat (by rw [List.getElem?_map, hq] <;> rfl), q, _, 0, .int (nxt g (t + 1) 0 : Nat), rfl, rfl, SqL.of (es5.at_ _ _ hq1), atI_nat (j := 0) (by rw [List.getElem?_map, hrow 0 (by omega)] <;> rfl), ?_⟩
      refine ⟨ql, _, _, v0, rfl, rfl, SqL.of hvs5, atI_nat hv0, ?_⟩
      refine ⟨_, rfl, a, C, dx, _, _, rfl, es5.at_ _ _ ha4, c.cl, c.nG, gr_G b pg pm, _, rfl, pg, _, _, .ref q, rfl, rfl, SqL.of (es5.at_ _ _ hr14), atI_nat (by rw [List.getElem?_map, hq] <;> rfl), _, rfl, q, _, rfl, SqL.of (es5.at_ _ _ hq1), fun pz hpz => ?_⟩
      obtain ⟨r0, r1, hrr⟩ : ∃ r0 r1, r = r0 :: r1 := by
        cases r with
        | nil => simp at hrl; omega
        | cons x l => exact ⟨x, l, rfl⟩
      have hrl1 : r1.length = b - 1 := by rw [hrr] at hrl; simp at hrl; omega
      rw [hrr, List.map_cons, cut_tail]
      have e6 := Sm.new (o := .lst (r1.map oV)) hpz
      have hpz6 : (upd H5 pz (.lst (r1.map oV))) pz = some (.lst (r1.map oV)) := upd_same
      generalize upd H5 pz (.lst (r1.map oV)) = H6 at *
      refine ⟨pz, rfl, ⟨_, SqL.of hpz6⟩, for_list (K := K) (a := pz) (xs := r1.map oV) (fun k σ H' => ∃ (v : V) (o11 : Option V), σ = [some (.ref a), some (.ref fo), some (.ref fj), some (.int many), none, some (.ref pl), some (.int (1 + (i : Int))), some (.ref ql), some (.ref pr), some (.int (t + 1 : Nat)), some v, o11] ∧ Sm H6 H' ∧
        ka.kv ((List.range k).foldl (fun acc f => jn acc (Lv i (nxt g (t + 1) (f + 1)))) (Lv i (nxt g (t + 1) 0))) H' v) ⟨v0, _, rfl, Sm.refl _, ka.keep (fun b' ys h => e6.at_ _ _ h) hk0⟩ (fun k σ H' _ ⟨_, _, _, e, _⟩ => SqL.of (e.at_ _ _ hpz6)) ?_ ?_⟩
      · rintro k x σ H7 hk ⟨v, o11, rfl, e7, hkv⟩
        have hk2 : k < b - 1 := by
          have := (List.getElem?_eq_some_iff.mp hk).1
          rw [List.length_map, hrl1] at this
          exact this
        have hrk := hrow (k + 1) (by omega)
        rw [hrr, List.getElem?_cons_succ] at hrk
        rw [List.getElem?_map, hrk] at hk
        have hk := Option.some.inj hk
        subst hk
        have e67 := e6.trans e7
        obtain ⟨v1, hv1, hk1⟩ := lastv (k + 1) (by omega) H7 e67
        have esa := (es5.trans e67).ext
        refine ⟨fj, rfl, ⟨_, hfj4.ext esa⟩, _, rfl, _, rfl, _, rfl, ql, _, _, v1, rfl, rfl, SqL.of (e67.at_ _ _ hvs5), atI_nat hv1, ?_⟩
        refine ⟨_, hfj4.ext esa, v, v1, _, _, rfl, hkv, hk1, fun H8 v' e8 hv' => ⟨v', _, rfl, e7.trans e8, ?_⟩⟩
        rw [List.range_succ, List.foldl_append]
        exact hv'
      · rintro σ H7 ⟨v, o11, rfl, e7, hkv⟩
        rw [List.length_map, hrl1, ← levS] at hkv
        have e57 := e6.trans e7
        have hus7 := e57.at_ _ _ hus
        refine ⟨_, rfl, .inl ⟨rfl, _, SqL.of hus7⟩, _, rfl, pr, _, _, rfl, rfl, hus7, by rw [List.length_cons, hmu.len]; exact sz_lt (by omega), ?_⟩
        have kp : ∀ b' zs, H7 b' = some (.tup zs) → (upd H7 pr (.lst (V.non :: us ++ [v]))) b' = some (.tup zs) := fun b' zs h => by rw [upd_ne fun z => by rw [z, hus7] at h; cases h]; exact h
        refine ⟨_, _, _, us ++ [v], rfl, (e5.trans e57).mut hpr, upd_same, by rw [List.length_append, hmu.len]; rfl, fun s h1 h2 => ?_⟩
        by_cases hs : s ≤ t
        · obtain ⟨u, q1, q2⟩ := hmu.at_ s h1 hs
          refine ⟨u, ?_, ka.keep (fun b' ys h => kp _ _ (e57.at_ _ _ h)) q2⟩
          rw [List.getElem?_append_left (by rw [hmu.len]; omega)]
          exact q1
        · have hs2 : s = t + 1 := by omega
          rw [hs2, Nat.add_sub_cancel]
          refine ⟨v, ?_, ka.keep kp hkv⟩
          rw [List.getElem?_append_right (by rw [hmu.len]; omega), hmu.len, Nat.sub_self]
          rfl
    · rintro σ H5 ⟨o9, o10, o11, us, rfl, e5, hus, hmu⟩
      have hpl5 := e5.at_ _ _ hpls
      refine ⟨_, rfl, .inl ⟨rfl, _, SqL.of hpl5⟩, _, rfl, pl, _, _, rfl, rfl, hpl5, by rw [List.length_map]; exact sz_lt (by omega), ?_⟩
      have kp : ∀ q o, q ≠ pl → H5 q = some o → (upd H5 pl (.lst (as.map V.ref ++ [.ref pr]))) q = some o := fun q o n h => by rw [upd_ne n]; exact h
      have kpt : ∀ b' zs, H5 b' = some (.tup zs) → (upd H5 pl (.lst (as.map V.ref ++ [.ref pr]))) b' = some (.tup zs) := fun b' zs h => kp _ _ (fun z => by rw [z, hpl5] at h; cases h) h
      refine ⟨_, _, _, _, _, _, as ++ [pr], rfl, (es.trans e5).mut hpl, by rw [upd_same, List.map_append]; rfl, by rw [List.length_append, hal]; rfl, fun j q hj => ?_⟩
      by_cases hj2 : j < as.length
      · rw [List.getElem?_append_left hj2] at hj
        obtain ⟨n1, vs', h1, h2⟩ := hrows j q hj
        exact ⟨n1, vs', kp _ _ n1 (e5.at_ _ _ h1), h2.keep fun b' zs h => kpt _ _ (e5.at_ _ _ h)⟩
      · have hj3 : j = i + 1 := by
          have := (List.getElem?_eq_some_iff.mp hj).1
          rw [List.length_append, hal, List.length_singleton] at this
          omega
        rw [hj3, List.getElem?_append_right (by omega), hal, Nat.sub_self] at hj
        have hq : pr = q := Option.some.inj hj
        subst hq
        rw [hj3]
        exact ⟨npr, us, kp _ _ npr hus, hmu.keep kpt⟩
  · rintro σ Hs ⟨o6, o7, o8, o9, o10, o11, as, rfl, es, hpls, hal, hrows⟩
    refine ⟨_, rfl, k_ pl Hs hpl0 (e14.trans es) ⟨as, hpls, by omega, fun j q h => (hrows j q h).2⟩⟩
end
end Bz
end
section
set_option Elab.async false
set_option linter.all false
set_option maxRecDepth 100000
set_option maxHeartbeats 4000000
namespace Bz
open PySem PySem.Spec PyProof.Rows L2 LamX NdefX
theorem Tile.mem {g : Row2} {b hi : Nat} : ∀ {ts : List (Nat × Nat × Nat)} {lo : Nat}, Tile g b lo ts hi → ∀ t ∈ ts, ∃ q, 0 < q ∧ t.2.1 = run g b q := by
  intro ts
  induction ts with
  | nil => intro lo _ t h; cases h
  | cons u r ih =>
    intro lo h t ht
    rcases List.mem_cons.mp ht with rfl | ht
    · obtain ⟨_, ⟨q, hq, _, e⟩, _⟩ := h
      exact ⟨q, hq, e⟩
    · exact ih h.2.2 t ht
abbrev b2n (b : Bool) : Nat := if b = true then 1 else 0
section
variable {P : Program} {w : World} {K : PySem.W.Frag} {mg : Str → Option Value} {base : Heap}
/-- lambda mark: int(mark) -/
theorem run_intmark {f : Addr} {F : CF} {cs : Cells} {p1 p2 p3 p4 : Pos} (T : Bt mg) (I : Inn F (args1 "mark" p1) (.expr (.Call (.Name "int" p2) [.Name "mark" p3] [] p4)) (scL [("mark", .local), ("int", .globalImplicit)])) (C : CellsC F [] [] cs) (all : ∀ c o, cs.lookup c = some o → ∃ y, F.cl.lookup y = some c) :
    Runs P w K mg base 2 f F cs (spMark kB kN (fun _ => True) b2n) := by
  obtain ⟨nm, q, pa, bo, sc, cl, c⟩ := F
  obtain ⟨e1, e2, e3⟩ := I
  simp only at e1 e2 e3
  subst e1 e2 e3
  refine runs_expr (N := ["mark"]) (ps := ["mark"]) (nscope_by (sc := scL [("mark", .local), ("int", .globalImplicit)]) (by decide +kernel)) rfl (fun _ _ _ us hl => match us, hl with | [_], _ => rfl) C all (fun vs H Q E ⟨v, s, e, _⟩ => by rw [e]; rfl) fun A outer s H vs Q E hr hf hc ⟨v, s, e, hk, hU, k_⟩ => ?_
  subst e
  refine ⟨_, pe_callTy call_int1 (by rfl) T.int (by decide +kernel) (pa_cons (pv 0) pa_nil), ?_⟩
  have hk : v = .bl s := hk
  subst hk
  refine ⟨_, rfl, .inr ⟨s, rfl, endC_of hc (k_ H _ (Sm.refl H) ?_)⟩⟩
  show V.int (if s = true then 1 else 0) = V.int (b2n s : Nat)
  cases s <;> rfl
/-- lambda one, two: one + two -/
theorem run_plus {f : Addr} {F : CF} {cs : Cells} {p1 p2 p3 p4 p5 : Pos} (I : Inn F (args2 "one" "two" p1 p2) (.expr (.BinOp (.Name "one" p3) .Add (.Name "two" p4) p5)) (scL [("one", .local), ("two", .local)])) (C : CellsC F [] [] cs) (all : ∀ c o, cs.lookup c = some o → ∃ y, F.cl.lookup y = some c) :
    Runs P w K mg base 2 f F cs (spJn kN (· + ·)) := by
  obtain ⟨nm, q, pa, bo, sc, cl, c⟩ := F
  obtain ⟨e1, e2, e3⟩ := I
  simp only at e1 e2 e3
  subst e1 e2 e3
  refine runs_expr (N := ["one", "two"]) (ps := ["one", "two"]) (nscope_by (sc := scL [("one", .local), ("two", .local)]) (by decide +kernel)) rfl (fun _ _ _ us hl => match us, hl with | [_, _], _ => rfl) C all (fun vs H Q E ⟨v, f, x, y, e, _⟩ => by rw [e]; rfl) fun A outer s H vs Q E hr hf hc ⟨v1, v2, x, y, e, h1, h2, k_⟩ => ?_
  subst e
  have h1 : v1 = .int (x : Nat) := h1
  have h2 : v2 = .int (y : Nat) := h2
  subst h1 h2
  refine ⟨_, (pe_op op_add (pv 0) (pv 1)), _, rfl, _, rfl, _, _, rfl, rfl, endC_of hc (k_ H _ (Sm.refl H) ?_)⟩
  show V.int ((x : Int) + (y : Int)) = V.int ((x + y : Nat) : Int)
  simp
theorem trk_imm {cs : Cells} {H : Hp} (hun : ∀ c o, cs.lookup c = some o → H c = none) : ∀ a o, H a = some o → trkC cs H a = some o := fun a o h => by
  cases q : cs.lookup a with
  | some u => rw [hun a u q] at h; cases h
  | none => rw [trk_out q]; exact h
theorem unt_imm {cs : Cells} {H' : Hp} (hc : ∀ c o, cs.lookup c = some o → H' c = some (CellX c o)) : ∀ a o, H' a = some o → Sol o → untC cs H' a = some o := fun a o h s => by
  cases q : cs.lookup a with
  | some u =>
    rw [hc a u q] at h
    cases h
    exact s.elim
  | none => rw [unt_out q]; exact h
/-- what comes of a call with the cells tracked -/
theorem trk_end {TT' : List NTab} {H H2 H' : Hp} {cs : Cells} (d02 : Kx H H2) (hT : TabsN TT' H2) (hun : ∀ c o, cs.lookup c = some o → H2 c = none) (e : Sm (trkC cs H2) H') :
    (∀ c o, cs.lookup c = some o → H' c = some (CellX c o)) ∧ Kx H (untC cs H') ∧ TabsN TT' (untC cs H') ∧ Sm H2 (untC cs H') := by
  have e23 : Sm H2 (untC cs H') := ⟨fun a o h => by
    cases q : cs.lookup a with
    | some u => rw [hun a u q] at h; cases h
    | none => rw [unt_out q]; exact e.at_ a o (by rw [trk_out q]; exact h)⟩
  exact ⟨fun c o h => e.at_ c _ (trk_in h), d02.trans e23.kx, hT.ext e23.at_, e23⟩
theorem trk_none {cs : Cells} {H : Hp} {p : Addr} (h : trkC cs H p = none) : H p = none := by
  cases q : cs.lookup p with
  | some o => rw [trk_in q] at h; cases h
  | none => rw [trk_out q] at h; exact h
/-- the levels of counts -/
abbrev cLev (g : Rows) (b : Nat) (mk : Nat → Bool) : Nat → Nat → Nat := lev g b (fun s => b2n (mk s)) (· + ·)
abbrev N_counted_levels : List Str := ["grid", "many"]
theorem sc_counted_levels : FnScope N_counted_levels ["grid", "many"] (defScope s_counted_levels) := ⟨rfl, rfl, rfl, by decide +kernel, rfl, by decide +kernel, by decide +kernel⟩
theorem hb_counted_levels : HB s_counted_levels "counted_levels" "counted_levels" ["grid", "many"] := fun _ _ _ _ _ _ us hl => match us, hl with | [_, _], _ => rfl

def spCounted (C : Addr) (TT' : List NTab) : Sp := fun vs H Q _ => ∃ (a : Addr) (b m many : Nat) (g : Rows) (ms : List V) (mk : Nat → Bool), vs = [.ref a, .int many] ∧ GridAt C H a b g ms ∧ MarksAre kB H ms mk m ∧ Wf b m g ∧ 2 ≤ b ∧ b ≤ 16 ∧ m ≤ 50000 ∧ 1 ≤ many ∧ many ≤ 4000 ∧ TabsN TT' H ∧
  ∀ p H', H p = none → Kx H H' → TabsN TT' H' → LevAt kN H' p (cLev g b mk) m many → Q (.ref p) H'
theorem g_counted_levels {f Pt C : Addr} {TT' : List NTab} (T : Bt mg) (D : DfT K base mg "counted_levels" "counted_levels" s_counted_levels f Pt) (hTm : (Pt, nmAll) ∈ TT') (hTu : ∀ p ∈ TT', p.1 = Pt → p.2 = nmAll) (m : mg "counted_levels" = some (.ref f))
    (G1 : Fn P w K mg base CXN 3 "stretch_levels" ["grid", "of_mark", "joined", "many"] (spStrLev kB kN C P w K mg base 2)) : Fn P w K mg base CXN 4 "counted_levels" ["grid", "many"] (spCounted C TT') := by
  refine D.fn m sc_counted_levels hb_counted_levels (fun vs H Q E ⟨a, b, m, many, g, ms, mk, e, _⟩ => by rw [e]; rfl) fun cc A outer s H vs Q E TB hr ⟨a, b, m, many, g, ms, mk, e, hg, hms, wf, hb, hb2, hm5, hm1, hm4, hT, k_⟩ => ?_
  subst e
  refine ⟨_, (pss_one (ps_ret (pe_fnT G1 (fun _ => rfl) ⟨rfl, rfl⟩ hr (by rfl) (pa_cons (pv 0) (pa_cons (pe_lamC TB rfl hTm (nm_164_32) hTu rfl (ndef_free (sc := defScope s_counted_levels) (fr := []) (by decide +kernel))) (pa_cons (pe_lamC TB rfl hTm (nm_164_56) hTu rfl (ndef_free (sc := defScope s_counted_levels) (fr := []) (by decide +kernel))) (pa_cons (pv 1) pa_nil))))))), ?_⟩
  refine ⟨_, rfl, hT, fun fs c1 H1 e1 d1 hT1 hfs0 hfs hc1 => ⟨hT1, fun fm c2 H2 e2 d2 hT2 hfm0 hfm hc2 => ⟨_, rfl, ?_⟩⟩⟩
  intro ob O hun
  have hnd1 : ndefB (defScope s_counted_levels) (scL [("mark", .local), ("int", .globalImplicit)]) [] = true := by decide +kernel
  have hnd2 : ndefB (defScope s_counted_levels) (scL [("one", .local), ("two", .local)]) [] = true := by decide +kernel
  have k02 : Kx H H2 := Kx.mk (e1.trans e2) fun a h => d1 a (d2 a h)
  have imm : ∀ a o, H a = some o → Sol o → trkC (ownC _ ob) H2 a = some o := fun a o h s => trk_imm hun a o (k02.kp.imm a o h s)
  refine ⟨a, fs, fm, b, m, many, g, ms, mk, b2n, (· + ·), rfl, hg.imm imm, hms.keep fun b' ys h => imm _ _ h True.intro, wf, hb, hb2, hm5, hm1, hm4, ?_, ?_, fun p H' hp e hL => ?_⟩
  · refine clo_own (fr := []) (js := []) O hun (e2 _ _ hfs cfo_ne) (e2 _ _ hc1 codeO_ne) rfl hnd1 rfl fun cs CC all => ?_
    exact run_intmark T ⟨rfl, rfl, rfl⟩ CC all
  · refine clo_own (fr := []) (js := []) O hun hfm hc2 rfl hnd2 rfl fun cs CC all => ?_
    exact run_plus ⟨rfl, rfl, rfl⟩ CC all
  · obtain ⟨h1, h2, h3, h4⟩ := trk_end k02 hT2 hun e
    exact ⟨h1, k_ p _ (k02.dom _ (trk_none hp)) h2 h3 (hL.imm (unt_imm h1))⟩
/-- levels[level][state] -/
theorem lev_get {α : Type} [DecidableEq α] {ka : KI α} {H : Hp} {p : Addr} {L : Nat → Nat → α} {m many l s : Nat} (h : LevAt ka H p L m many) (hl : l < many) (h1 : 1 ≤ s) (h2 : s ≤ m) : ∃ (xs : List V) (q : Addr) (ys : List V) (v : V), H p = some (.lst xs) ∧ xs[l]? = some (.ref q) ∧ H q = some (.lst ys) ∧ ys[s]? = some v ∧ ka.kv (L l s) H v := by
  obtain ⟨as, a1, a2, a3⟩ := h
  obtain ⟨q, hq⟩ : ∃ q, as[l]? = some q := ⟨_, List.getElem?_eq_getElem (by omega)⟩
  obtain ⟨vs, b1, b2⟩ := a3 l q hq
  obtain ⟨v, c1, c2⟩ := b2.at_ s h1 h2
  refine ⟨_, q, _, v, a1, by rw [List.getElem?_map, hq] <;> rfl, b1, ?_, c2⟩
  obtain ⟨j, hj⟩ : ∃ j, s = j + 1 := ⟨s - 1, by omega⟩
  rw [hj] at c1 ⊢
  exact c1
theorem cLev_count {b m : Nat} {g : Rows} {mk F : Nat → Bool} (hb : 2 ≤ b) (hc : Canon b m g mk F) : ∀ l n, 0 < n → cLev g b mk l (run g b n) = cw F (n * b ^ l) (b ^ l) := lev_count hb hc.tells
abbrev N_count_upto : List Str := ["grid", "number", "levels", "level", "state", "least"]
theorem sc_count_upto : FnScope N_count_upto ["grid", "number"] (defScope s_count_upto) := ⟨rfl, rfl, rfl, by decide +kernel, rfl, by decide +kernel, by decide +kernel⟩
theorem hb_count_upto : HB s_count_upto "count_upto" "count_upto" ["grid", "number"] := fun _ _ _ _ _ _ us hl => match us, hl with | [_, _], _ => rfl

def spCountUp (C : Addr) (TT' : List NTab) : Sp := fun vs H Q _ => ∃ (a : Addr) (b m n : Nat) (g : Rows) (ms : List V) (mk F : Nat → Bool), vs = [.ref a, .int n] ∧ GridAt C H a b g ms ∧ MarksAre kB H ms mk m ∧ Canon b m g mk F ∧ 2 ≤ b ∧ b ≤ 16 ∧ m ≤ 50000 ∧ 0 < n ∧ n < 2 ^ 3000 ∧ TabsN TT' H ∧
  ∀ H', Kx H H' → TabsN TT' H' → Q (.int (cb F (n + 1) : Nat)) H'
theorem sum_cast (l : List Nat) : (l.map fun k : Nat => (k : Int)).sum = ((l.sum : Nat) : Int) := by
  induction l with
  | nil => rfl
  | cons a l ih => rw [List.map_cons, List.sum_cons, List.sum_cons, ih]; simp
theorem g_count_upto {f C : Addr} {TT' : List NTab} (T : Bt mg) (c : GrC K C) (D : Df K "count_upto" "count_upto" s_count_upto f) (m : mg "count_upto" = some (.ref f)) (G1 : Fn P w K mg base CXN 4 "counted_levels" ["grid", "many"] (spCounted C TT')) (G2 : Fn P w K mg base CXN 2 "levels_for" ["number", "figures"] spLevFor) (G3 : Fn P w K mg base CXN 2 "stretches_upto" ["grid", "number"] (spStrUp C)) :
    Fn P w K mg base CXN 5 "count_upto" ["grid", "number"] (spCountUp C TT') := by
  refine D.fn m sc_count_upto hb_count_upto (fun vs H Q E ⟨a, b, m, n, g, ms, mk, F, e, _⟩ => by rw [e]; rfl) fun cdv A outer s H vs Q E hr ⟨a, b, m, n, g, ms, mk, F, e, hg, hms, hc, hb, hb2, hm5, hn, hn2, hT, k_⟩ => ?_
  subst e
  refine ⟨_, (pss_cons (ps_set (i := 2) sc_count_upto.nd rfl (Or.inr rfl) (pe_fn G1 (hr.mono (by decide)) (by rfl) pass0 (pa_cons (pv 0) (pa_cons (pe_fn G2 (hr.mono (by decide)) (by rfl) pass0 (pa_cons (pv 1) (pa_cons (pe_fldK (K := K) rfl (pv 0) rfl) pa_nil))) pa_nil))))
    (pss_one (ps_ret (pe_callB (cr_sumK (K := K) rfl rfl) (by rfl) T.sum (by decide +kernel) (pa_cons (pe_lc (own := [("level", 3), ("state", 4), ("least", 5)]) (g := gTup K 3 (gCons (gName 3) (gCons (gName 4) (gCons (gName 5) gNil)))) (tt := tYes) rfl sc_count_upto.nd (pi_listK (K := K) rfl (pe_fn G3 (hr.mono (by decide)) (by rfl) pass0 (pa_cons (pv 0) (pa_cons (pv 1) pa_nil)))) (blkOk_by (own := [("level", 3), ("state", 4), ("least", 5)]) (N := N_count_upto) (sc := defScope s_count_upto) (by decide +kernel)) (fun _ _ _ _ _ => (pg_tupK rfl rfl (pgs_cons (pg_name (i := 3) sc_count_upto.nd rfl (Or.inl rfl)) (pgs_cons (pg_name (i := 4) sc_count_upto.nd rfl (Or.inl rfl)) (pgs_cons (pg_name (i := 5) sc_count_upto.nd rfl (Or.inl rfl)) pgs_nil))))) (fun _ _ _ _ _ => pts_nil) (fun _ _ _ _ _ => (pe_ix (ix_listK (K := K) rfl) (pe_ix (ix_listK (K := K) rfl) (pv 2) (pv 3) (fun _ _ => rfl)) (pv 4) (fun _ _ => rfl)))) pa_nil))))), ?_⟩
  obtain ⟨dx, pg, pm, ha, h2, h3⟩ := id hg
  have wf := hc.met.wf
  have hL0 := figs_len_pos hb hn
  have hL3 := figs_len_le hb hn2
  refine ⟨_, rfl, _, rfl, _, rfl, a, C, dx, _, _, rfl, ha, c.cl, c.nF, gr_F b pg pm, n, b, rfl, hb, hb2, hn2, fun H1 e1 => ?_⟩
  refine ⟨a, b, m, (figs b n).length, g, ms, mk, rfl, hg.kp e1.kp, hms.keep fun b' ys h => e1.at_ _ _ h, wf, hb, hb2, hm5, hL0, by omega, hT.ext e1.at_, fun pl H2 hpl e2 hT2 hlev => ?_⟩
  have e12 := e1.kx.trans e2
  refine ⟨_, rfl, _, rfl, a, b, m, n, g, ms, rfl, hg.kp e12.kp, hb, hb2, wf, hn, hn2, fun ps xs ts H3 hps e3 hxs htr htl hlen hlv => ?_⟩
  have hlev3 := hlev.sm e3
  refine ⟨ps, rfl, ⟨_, SqL.of hxs⟩, fun Dl hDl => lcmG (K := K) (xs := xs) (fun i y _ => ∃ t, ts[i]? = some t ∧ y = .int (cLev g b mk t.1 t.2.1 : Nat)) hDl (SqL.of hxs) (by rw [htr.1]; omega) (fun _ _ _ _ _ _ h => h) ?_ ?_⟩
  · intro i v H4 hi e4 _ Qk hQ
    obtain ⟨t, q, ht, ev, hq⟩ := htr.at_ hi
    subst ev
    have htm := List.mem_of_getElem? ht
    obtain ⟨qn, hqn, es⟩ := Tile.mem htl t htm
    obtain ⟨r1, r2⟩ := wf.run hb qn hqn
    rw [← es] at r1 r2
    obtain ⟨ls, ql, ys, u, g1, g2, g3, g4, g5⟩ := lev_get (hlev3.sm e4) (hlv t htm) r1 r2
    have g5 : u = .int (cLev g b mk t.1 t.2.1 : Nat) := g5
    subst g5
    exact ⟨q, _, rfl, SqT.of (e4.at_ _ _ hq), rfl, _, _, rfl, _, _, rfl, _, _, rfl, rfl, rfl, _, rfl, _, rfl, pl, _, _, _, rfl, rfl, SqL.of g1, atI_nat g2, _, rfl, ql, _, _, _, rfl, rfl, SqL.of g3, atI_nat g4, hQ _ H4 (Sm.refl _) ⟨t, ht, rfl⟩⟩
  intro ys H4 hyl hys hD4 e4
  have hys2 : ys = ((ts.map fun t => cLev g b mk t.1 t.2.1).map fun k : Nat => (k : Int)).map V.int := by
    apply List.ext_getElem?
    intro i
    by_cases hi : i < ys.length
    · obtain ⟨t, ht, e⟩ := hys i _ (List.getElem?_eq_getElem hi)
      rw [List.getElem?_eq_getElem hi, e, List.getElem?_map, List.getElem?_map, List.getElem?_map, ht] <;> rfl
    · rw [List.getElem?_eq_none (by omega), List.getElem?_eq_none (by simp; rw [hyl, htr.1] at hi; omega)]
  rw [hys2] at hD4
  refine ⟨Dl, _, rfl, SqL.of hD4, ?_⟩
  rw [sum_cast]
  have hct := Tile.count (F := F) hb (cLev_count hb hc) htl (by decide)
  have h1 : cb F 1 = 0 := by show cb F 0 + (if 0 < 0 ∧ F 0 = true then 1 else 0) = 0; rw [if_neg (by omega)]; rfl
  rw [h1, Nat.zero_add] at hct
  rw [show (ts.map fun t => cLev g b mk t.1 t.2.1).sum = cb F (n + 1) from hct.symm]
  exact k_ H4 (e12.trans (e3.trans e4).kx) (hT2.ext (e3.trans e4).at_)
end
end Bz
end
section
set_option Elab.async false
set_option linter.all false
set_option maxRecDepth 100000
set_option maxHeartbeats 4000000
namespace Bz
open PySem PySem.Spec PyProof.Rows L2 LamX NdefX
abbrev N40 : Nat := 10000000000000000000000000000000000000000
theorem N40_lt : N40 < 2 ^ 133 := by decide +kernel
theorem N40_lt3 : N40 < 2 ^ 3000 := Nat.lt_of_lt_of_le N40_lt (Nat.pow_le_pow_right (by decide) (by decide))
def trD (t : Nat × Nat × Nat) : PyData := .tuple [.int t.1, .int t.2.1, .int t.2.2]
theorem dok_tr {K : PySem.W.Frag} {H : Hp} {q : Addr} {t : Nat × Nat × Nat} (h : H q = some (.tup (trV t))) : Dok K H (.ref q) (trD t) 1 := by
  refine ⟨.tup (SqT.of h) (.cons (.int _) (.cons (.int _) (.cons (.int _) .nil))), ?_, ?_⟩
  · simp [trD, PyData.canLay0, PyData.canLayAll0]
  · simp [trD, PyData.depth, PyData.depthAll]
/-- that a list of stretches stays short, whatever parts are put in -/
def Few (B b : Nat) : List (Nat × Nat × Nat) → Prop
  | [] => True
  | t :: r => r.length + 1 + b * t.1 ≤ B ∧ Few B b r
theorem Few.len {B b : Nat} {ts : List (Nat × Nat × Nat)} (h : Few B b ts) : ts.length ≤ B := by
  cases ts with
  | nil => exact Nat.zero_le _
  | cons t r => have := h.1; rw [List.length_cons]; omega
theorem Few.of {B b M : Nat} : ∀ {ts : List (Nat × Nat × Nat)}, (∀ t ∈ ts, t.1 < M) → ts.length + b * M ≤ B → Few B b ts
  | [], _, _ => True.intro
  | t :: r, h, hl => by
    refine ⟨?_, Few.of (fun u hu => h u (List.mem_cons_of_mem _ hu)) (by rw [List.length_cons] at hl; omega)⟩
    have h1 : b * t.1 ≤ b * M := Nat.mul_le_mul_left _ (Nat.le_of_lt (h t List.mem_cons_self))
    rw [List.length_cons] at hl
    omega
theorem Few.parts {B b l : Nat} {t : Nat × Nat × Nat} {r ps : List (Nat × Nat × Nat)} (hb : 1 ≤ b) (ht : t.1 = l + 1) (h : Few B b (t :: r)) : ∀ {ps : List (Nat × Nat × Nat)}, ps.length ≤ b → (∀ u ∈ ps, u.1 = l) → Few B b (ps ++ r)
  | [], _, _ => h.2
  | u :: ps, hl, hu => by
    refine ⟨?_, Few.parts (ps := ps) hb ht h (by rw [List.length_cons] at hl; omega) fun x hx => hu x (List.mem_cons_of_mem _ hx)⟩
    have h1 := h.1
    rw [ht, Nat.mul_add] at h1
    rw [hu u List.mem_cons_self]
    show (ps ++ r).length + 1 + b * l ≤ B
    rw [List.length_append]
    rw [List.length_cons] at hl
    omega
/-- how many turns are left at most -/
def wt (b : Nat) (ts : List (Nat × Nat × Nat)) : Nat := (ts.map fun t => 2 * b ^ t.1 - 1).sum
theorem wt_cons (b : Nat) (t : Nat × Nat × Nat) (r : List (Nat × Nat × Nat)) : wt b (t :: r) = (2 * b ^ t.1 - 1) + wt b r := rfl
theorem wt_append (b : Nat) (x y : List (Nat × Nat × Nat)) : wt b (x ++ y) = wt b x + wt b y := by unfold wt; rw [List.map_append, List.sum_append]
theorem wt_parts {g : Rows} {b l s lo : Nat} (hb : 2 ≤ b) : wt b (partsOf g b (l + 1, s, lo)) < 2 * b ^ (l + 1) - 1 := by
  unfold wt partsOf
  rw [List.map_map]
  have e : ((List.range b).map ((fun t : Nat × Nat × Nat => 2 * b ^ t.1 - 1) ∘ fun f => (l + 1 - 1, nxt g s f, lo + f * b ^ (l + 1 - 1)))).sum = b * (2 * b ^ l - 1) := by
    rw [show ((fun t : Nat × Nat × Nat => 2 * b ^ t.1 - 1) ∘ fun f => (l + 1 - 1, nxt g s f, lo + f * b ^ (l + 1 - 1))) = fun _ => 2 * b ^ l - 1 from funext fun f => by simp]
    rw [List.map_const', List.sum_replicate_nat, List.length_range]
  have h0 : 0 < b ^ l := Nat.pow_pos (by omega)
  have h1 : b * (2 * b ^ l - 1) = 2 * b ^ (l + 1) - b := by
    rw [Nat.mul_sub, Nat.mul_one, Nat.pow_succ]
    congr 1
    rw [Nat.mul_comm (b ^ l) b, Nat.mul_left_comm]
  have h2 : b ≤ b ^ (l + 1) := by rw [Nat.pow_succ]; exact Nat.le_mul_of_pos_left _ h0
  show ((List.range b).map ((fun t : Nat × Nat × Nat => 2 * b ^ t.1 - 1) ∘ fun f => (l + 1 - 1, nxt g s f, lo + f * b ^ (l + 1 - 1)))).sum < _
  rw [e, h1]
  omega
section
variable {P : Program} {w : World} {K : PySem.W.Frag} {mg : Str → Option Value} {base : Heap}
/-- what number_at tells -/
def NthR (F : Nat → Bool) (place : Nat) (v : V) : Prop := (∃ n : Nat, 0 < n ∧ n ≤ N40 ∧ F n = true ∧ cb F (n + 1) = place ∧ v = .int n) ∨ (cb F (N40 + 1) < place ∧ v = .non)
abbrev N_number_at : List Str := ["grid", "place", "levels", "waiting", "level", "state", "least", "many"]
theorem sc_number_at : FnScope N_number_at ["grid", "place"] (defScope s_number_at) := ⟨rfl, rfl, rfl, by decide +kernel, rfl, by decide +kernel, by decide +kernel⟩
theorem hb_number_at : HB s_number_at "number_at" "number_at" ["grid", "place"] := fun _ _ _ _ _ _ us hl => match us, hl with | [_, _], _ => rfl

def spNumAt (C : Addr) (TT' : List NTab) : Sp := fun vs H Q _ => ∃ (a : Addr) (b m place : Nat) (g : Rows) (ms : List V) (mk F : Nat → Bool), vs = [.ref a, .int place] ∧ GridAt C H a b g ms ∧ MarksAre kB H ms mk m ∧ Canon b m g mk F ∧ 2 ≤ b ∧ b ≤ 16 ∧ m ≤ 50000 ∧ 0 < place ∧ TabsN TT' H ∧
  ∀ v H', Kx H H' → TabsN TT' H' → NthR F place v → Q v H'
theorem g_number_at {f C : Addr} {TT' : List NTab} (T : Bt mg) (c : GrC K C) (hmn : ∃ t, mg "MOST_NUMBER" = some (.int 10000000000000000000000000000000000000000 t)) (D : Df K "number_at" "number_at" s_number_at f) (m : mg "number_at" = some (.ref f)) (G1 : Fn P w K mg base CXN 4 "counted_levels" ["grid", "many"] (spCounted C TT')) (G2 : Fn P w K mg base CXN 2 "levels_for" ["number", "figures"] spLevFor) (G3 : Fn P w K mg base CXN 2 "stretches_upto" ["grid", "number"] (spStrUp C)) (G4 : Fn P w K mg base CXN 2 "parts_of" ["grid", "level", "state", "least"] (spParts C)) :
    Fn P w K mg base CXN 5 "number_at" ["grid", "place"] (spNumAt C TT') := by
  refine D.fn m sc_number_at hb_number_at (fun vs H Q E ⟨a, b, m, place, g, ms, mk, F, e, _⟩ => by rw [e]; rfl) fun cdv A outer s H vs Q E hr ⟨a, b, m, place, g, ms, mk, F, e, hg, hms, hc, hb, hb2, hm5, hp, hT, k_⟩ => ?_
  subst e
  obtain ⟨tmn, hmn⟩ := hmn
  have hu64 := hr.units
  refine ⟨_, (pss_cons (ps_set (i := 2) sc_number_at.nd rfl (Or.inl rfl) (pe_fn G1 (hr.mono (by decide)) (by rfl) pass0 (pa_cons (pv 0) (pa_cons (pe_fn G2 (hr.mono (by decide)) (by rfl) pass0 (pa_cons (pe_glob (v := .int (10000000000000000000000000000000000000000)) rfl hmn ⟨_, rfl⟩) (pa_cons (pe_fldK (K := K) rfl (pv 0) rfl) pa_nil))) pa_nil))))
    (pss_cons (ps_set (i := 3) sc_number_at.nd rfl (Or.inl rfl) (pe_revLK (K := K) rfl (pe_fn G3 (hr.mono (by decide)) (by rfl) pass0 (pa_cons (pv 0) (pa_cons (pe_glob (v := .int (10000000000000000000000000000000000000000)) rfl hmn ⟨_, rfl⟩) pa_nil)))))
    (pss_cons (ps_while PassesOwn.never (pt_cmpR (op_neDK (K := K) rfl hu64) (pv 3) (pe_lst pa_nil) (nomark _)) (pss_cons (ps_asg (pe_bm0 PySem.F.plainAttrs_list PySem.F.slot_list_pop PySem.F.type_list_pop mt_pop (pv 3)) (pg_tup rfl (pgs_cons (pg_name (i := 4) sc_number_at.nd rfl (Or.inl rfl)) (pgs_cons (pg_name (i := 5) sc_number_at.nd rfl (Or.inl rfl)) (pgs_cons (pg_name (i := 6) sc_number_at.nd rfl (Or.inl rfl)) pgs_nil)))))
    (pss_cons (ps_set (i := 7) sc_number_at.nd rfl (Or.inl rfl) (pe_ix (ix_listK (K := K) rfl) (pe_ix (ix_listK (K := K) rfl) (pv 2) (pv 4) (fun _ _ => rfl)) (pv 5) (fun _ _ => rfl)))
    (pss_one (ps_if (pt_cmpR (op_gt) (pv 1) (pv 7) (nomark _)) (pss_one (ps_aug (i := 1) sc_number_at.nd rfl (Or.inl rfl) (pv 7) ip_sub)) (pss_one (ps_if (pt_cmpR (op_eq) (pv 4) pe_int (nomark _)) (pss_one (ps_ret (pv 6))) (pss_one (ps_expr (pe_bm PySem.F.plainAttrs_list PySem.F.slot_list_extend PySem.F.type_list_extend mt_extend (pv 3) (pa_cons (pe_revLK (K := K) rfl (pe_fn G4 (hr.mono (by decide)) (by rfl) pass0 (pa_cons (pv 0) (pa_cons (pv 4) (pa_cons (pv 5) (pa_cons (pv 6) pa_nil)))))) pa_nil)))))))))))
    (pss_one (ps_ret pe_non))))), ?_⟩
  obtain ⟨dx, pg, pm, ha, h2, h3⟩ := id hg
  have wf := hc.met.wf
  have hN0 : 0 < N40 := by decide
  have hN3 := N40_lt3
  have hL0 := figs_len_pos hb hN0
  have hL3 : (figs b N40).length ≤ 133 := figs_len hb 133 N40_lt
  refine ⟨_, rfl, _, rfl, a, C, dx, _, _, rfl, ha, c.cl, c.nF, gr_F b pg pm, N40, b, rfl, hb, hb2, hN3, fun H1 e1 => ?_⟩
  refine ⟨a, b, m, (figs b N40).length, g, ms, mk, rfl, hg.kp e1.kp, hms.keep fun b' ys h => e1.at_ _ _ h, wf, hb, hb2, hm5, hL0, by omega, hT.ext e1.at_, fun pl H2 hpl e2 hT2 hlev => ?_⟩
  have e12 := e1.kx.trans e2
  refine ⟨_, rfl, a, b, m, N40, g, ms, rfl, hg.kp e12.kp, hb, hb2, wf, hN0, hN3, fun ps xs0 ts0 H3 hps e3 hxs htr htl hlen hlv => ?_⟩
  refine ⟨ps, xs0, rfl, SqL.of hxs, fun wa hwa => ?_⟩
  have hlev3 := hlev.sm e3
  have e13 := e12.trans e3.kx
  have hT3 := hT2.ext e3.at_
  have ha3 := e13.kp.ins ha
  have hg3 := hg.kp e13.kp
  have cb1 : cb F 1 = 0 := by show cb F 0 + (if 0 < 0 ∧ F 0 = true then 1 else 0) = 0; rw [if_neg (by omega)]; rfl
  have fin : ∀ v H', Sm H3 H' → NthR F place v → Q v H' := fun v H' e r => k_ v H' (e13.trans e.kx) (hT3.ext e.at_) r
  clear k_
  refine wl (fun k σ H' => ∃ (lo pc : Nat) (xs : List V) (ts : List (Nat × Nat × Nat)) (o4 o5 o6 o7 : Option V), k = wt b ts ∧ σ = [some (.ref a), some (.int pc), some (.ref pl), some (.ref wa), o4, o5, o6, o7] ∧ Sm H3 H' ∧ H' wa = some (.lst xs.reverse) ∧ TrAre H' xs ts ∧
    Tile g b lo ts (N40 + 1) ∧ 0 < lo ∧ 0 < pc ∧ pc + cb F lo = place ∧ Few 10000 b ts)
    (wt b ts0) ⟨1, place, xs0, ts0, none, none, none, none, rfl, rfl, Sm.new hwa, upd_same, htr.sm (Sm.new hwa), htl, by omega, hp, by omega, Few.of hlv (by
      have : b * (figs b N40).length ≤ 16 * 133 := Nat.mul_le_mul hb2 hL3
      omega)⟩ ?_ ?_
  · rintro k σ H4 ⟨lo, pc, xs, ts, o4, o5, o6, o7, rfl, rfl, e4, hw4, htr4, htl4, hlo, hpc, hpl4, hfew⟩
    refine ⟨_, rfl, Nat.zero_le _, fun pe hpe => ?_⟩
    have e5 := Sm.new (o := .lst []) hpe
    have hpe5 : (upd H4 pe (.lst [])) pe = some (.lst []) := upd_same
    have hw5 := e5.at_ _ _ hw4
    have htr5 := htr4.sm e5
    have e45 := e4.trans e5
    generalize upd H4 pe (.lst []) = H5 at *
    have L1 := dok_list (K := K) (n := 1) trD (l := ts.reverse) (SqL.of hw5) (by rw [List.length_reverse, List.length_reverse, htr5.1]) fun i x t hx ht => by
      have hi : i < xs.length := by
        have := (List.getElem?_eq_some_iff.mp hx).1
        simpa using this
      rw [List.getElem?_reverse hi] at hx
      rw [List.getElem?_reverse (by rw [← htr5.1]; exact hi), ← htr5.1] at ht
      obtain ⟨q, e, h⟩ := htr5.2 _ x t hx ht
      rw [e]
      exact dok_tr h
    have L2' := dok_list (K := K) (n := 0) trD (l := []) (SqL.of hpe5) rfl fun i x t hx _ => by simp at hx
    refine ⟨_, _, L1.dp, L2'.dp, L1.shaped (by decide), L2'.shaped (by decide), _, rfl, ?_⟩
    cases ts with
    | nil =>
      refine iteF ?_
      have hlo2 : lo = N40 + 1 := htl4
      refine fin _ H5 e45 (.inr ⟨by rw [← hlo2]; omega, rfl⟩)
    | cons t r =>
      have hne : PyData.eqv (.list ((t :: r).reverse.map trD)) (.list ([].map trD)) = false := by
        obtain ⟨z, l, e⟩ := List.exists_cons_of_ne_nil (show (t :: r).reverse.map trD ≠ [] by simp)
        rw [e]
        simp [PyData.eqv, PyData.eqvAll]
      rw [hne]
      refine iteT ?_
      obtain ⟨l, s, lo'⟩ := t
      obtain ⟨hlo', ⟨q, hq, eq1, eq2⟩, htl5⟩ := htl4
      simp only at hlo' eq1 eq2 htl5
      subst hlo'
      cases xs with
      | nil => have := htr5.1; simp at this
      | cons x xr =>
        obtain ⟨qx, ex, hqx⟩ := htr5.2 0 x (l, s, lo') rfl rfl
        subst ex
        have hrev : (V.ref qx :: xr).reverse = xr.reverse ++ [V.ref qx] := List.reverse_cons
        rw [hrev] at hw5
        refine ⟨_, rfl, .inl ⟨rfl, _, SqL.of hw5⟩, wa, _, .ref qx, rfl, rfl, hw5, by rw [List.length_append, List.length_singleton, Nat.add_sub_cancel, List.getElem?_append_right (Nat.le_refl _), Nat.sub_self]; rfl, ?_⟩
        rw [List.dropLast_concat]
        have hwn : H3 wa = none := hwa
        have e6 : Sm H3 (upd H5 wa (.lst xr.reverse)) := e45.mut hwn
        have hw6 : (upd H5 wa (.lst xr.reverse)) wa = some (.lst xr.reverse) := upd_same
        have kp : ∀ b' zs, H5 b' = some (.tup zs) → (upd H5 wa (.lst xr.reverse)) b' = some (.tup zs) := fun b' zs h => by rw [upd_ne fun z => by rw [z, hw5] at h; cases h]; exact h
        have hqx6 := kp _ _ hqx
        have htr6 : TrAre (upd H5 wa (.lst xr.reverse)) xr r := ⟨by have := htr5.1; simpa using this, fun i y u h1 h2 => let ⟨q', e, h⟩ := htr5.2 (i + 1) y u h1 h2; ⟨q', e, kp _ _ h⟩⟩
        generalize upd H5 wa (.lst xr.reverse) = H6 at *
        refine ⟨qx, _, rfl, SqT.of hqx6, rfl, _, _, rfl, _, _, rfl, _, _, rfl, rfl, ?_⟩
        obtain ⟨r1, r2⟩ := wf.run hb q hq
        rw [← eq2] at r1 r2
        have hlt : l < (figs b N40).length := by
          apply Classical.byContradiction
          intro hge
          have hle : (lo' : Nat) + b ^ l ≤ N40 + 1 := htl5.le
          have h1 : b ^ (figs b N40).length ≤ b ^ l := Nat.pow_le_pow_right (by omega) (by omega)
          have h2 := figs_lt_pow hb N40
          omega
        obtain ⟨ls, ql, ys, u, g1, g2, g3, g4, g5⟩ := lev_get (hlev3.sm e6) hlt r1 r2
        have g5 : u = .int (cLev g b mk l s : Nat) := g5
        subst g5
        have hcount : cLev g b mk l s = cw F lo' (b ^ l) := by rw [eq2, cLev_count hb hc l q hq, ← eq1]
        rw [hcount] at g4
        refine ⟨_, rfl, _, rfl, pl, _, _, _, rfl, rfl, SqL.of g1, atI_nat g2, _, rfl, ql, _, _, _, rfl, rfl, SqL.of g3, atI_nat g4, ?_⟩
        have hcb := cb_add F hlo (b ^ l)
        have hpow : 0 < b ^ l := Nat.pow_pos (by omega)
        refine ⟨_, rfl, _, rfl, _, _, rfl, rfl, _, rfl, ?_⟩
        refine ifb (fun hgt => ?_) (fun hle => ?_)
        · refine ⟨_, rfl, _, rfl, _, _, rfl, rfl, ?_⟩
          refine ⟨wt b r, by rw [wt_cons]; exact Nat.lt_add_of_pos_left (by show 0 < 2 * b ^ l - 1; omega), lo' + b ^ l, pc - cw F lo' (b ^ l), xr, r, some (.int (l : Nat)), some (.int (s : Nat)), some (.int (lo' : Nat)), some (.int (cw F lo' (b ^ l) : Nat)), rfl, ?_, e6, hw6, htr6, htl5, by omega, by omega, by omega, hfew.2⟩
          rw [show ((pc - cw F lo' (b ^ l) : Nat) : Int) = (pc : Int) - (cw F lo' (b ^ l) : Nat) by omega]
          rfl
        · refine ⟨_, rfl, rfl, _, rfl, ?_⟩
          rw [show decide ((V.int (l : Nat)) = V.int 0) = decide (l = 0) from dec_int l 0]
          refine ifb (fun hl0 => ?_) (fun hl0 => ?_)
          · subst hl0
            have h1 : cw F lo' (b ^ 0) = if F lo' = true then 1 else 0 := by
              rw [Nat.pow_zero]
              show cw F lo' 0 + (if F (lo' + 0) = true then 1 else 0) = _
              rw [Nat.add_zero]
              exact Nat.zero_add _
            rw [h1] at hcb hle
            have hF : F lo' = true := by
              apply Classical.byContradiction
              intro hF
              rw [if_neg hF] at hle
              omega
            rw [if_pos hF] at hcb hle
            have hle2 : (lo' : Nat) + b ^ 0 ≤ N40 + 1 := htl5.le
            rw [Nat.pow_zero] at hle2 hcb
            exact ⟨_, rfl, fin _ H6 e6 (.inl ⟨lo', hlo, by omega, hF, by omega, rfl⟩)⟩
          · obtain ⟨l1, rfl⟩ : ∃ l1, l = l1 + 1 := ⟨l - 1, by omega⟩
            refine ⟨_, rfl, .inl ⟨rfl, _, SqL.of hw6⟩, _, rfl, _, rfl, _, rfl, _, rfl, a, b, m, l1, s, lo', g, ms, rfl, hg3.kp e6.kp, hb, hb2, wf, r1, r2, by omega, fun pp pxs H7 hpp e7 hpx7 hptr => ⟨pp, pxs, rfl, SqL.of hpx7, fun rv hrv => ?_⟩⟩
            have hw7 := e7.at_ _ _ hw6
            have hlen7 := hptr.1
            have hpl7 : (partsOf g b (l1 + 1, s, lo')).length = b := by unfold partsOf; simp
            have few2 := Few.parts (ps := partsOf g b (l1 + 1, s, lo')) (by omega) rfl hfew (Nat.le_of_eq hpl7) fun u hu => by
              unfold partsOf at hu
              obtain ⟨f', _, rfl⟩ := List.mem_map.mp hu
              rfl
            have hflen := few2.len
            rw [List.length_append, hpl7] at hflen
            have hxr : xr.length = r.length := htr6.1
            have e78 : Sm H7 (upd H7 rv (.lst pxs.reverse)) := Sm.new hrv
            refine ⟨wa, rv, _, _, rfl, rfl, upd_get hw7 hrv, upd_same, by rw [List.length_reverse, List.length_reverse, hlen7, hpl7, hxr]; exact sz_le (by omega), ?_⟩
            have kp8 : ∀ b' zs, H7 b' = some (.tup zs) → (upd (upd H7 rv (.lst pxs.reverse)) wa (.lst (xr.reverse ++ pxs.reverse))) b' = some (.tup zs) := fun b' zs h => by
              rw [upd_ne fun z => by rw [z, hw7] at h; cases h]
              exact upd_get h hrv
            refine ⟨wt b (partsOf g b (l1 + 1, s, lo') ++ r), ?_, lo', pc, pxs ++ xr, partsOf g b (l1 + 1, s, lo') ++ r, _, _, _, _, rfl, rfl, ((e6.trans e7).trans e78).mut hwn, by rw [upd_same, List.reverse_append], (hptr.keep kp8).append (htr6.keep fun b' zs h => kp8 _ _ (e7.at_ _ _ h)), (partsOf_tile hb hq eq1 eq2).append htl5, hlo, hpc, hpl4, few2⟩
            rw [wt_append, wt_cons]
            have := wt_parts (g := g) (b := b) (l := l1) (s := s) (lo := lo') hb
            show wt b (partsOf g b (l1 + 1, s, lo')) + wt b r < 2 * b ^ (l1 + 1) - 1 + wt b r
            omega
  · rintro σ H0 Q1 Q2 hq ⟨v, a1, a2, h⟩
    exact ⟨v, a1, a2, fun p hp => let ⟨d, e, b1, b2, b3, b4, k, b5, q⟩ := h p hp; ⟨d, e, b1, b2, b3, b4, k, b5, hq _ _ q⟩⟩
end
end Bz
end
section
set_option Elab.async false
set_option linter.all false
set_option maxRecDepth 100000
set_option maxHeartbeats 2000000
namespace Bz
open PySem PySem.Spec PyProof.Rows L2 LamX NdefX
/-! ### methods called by keywords alone, in the parameters' order -/
structure MtK (P : Program) (w : World) (K : PySem.W.Frag) (mg : Str → Option Value) (base : Heap) (CX : CXT) (k : Nat) (C : Addr) (m qual : Str) (st : Stmt) (ps : List Str) (sp : Sp) : Prop where
  ex : ∃ f fd, FnOk P w K mg base CX k f fd ps sp ∧ Meth K C m f ∧ Binds K fd ps [] ∧ FunD K m qual (defArgs st) (defBody st) (defScope st) [] [] f fd
section
variable {P : Program} {w : World} {K : PySem.W.Frag} {mg : Str → Option Value} {base : Heap} {CX : CXT} {x qual : Str} {st : Stmt} {f C : Addr} {N ps : List Str} {k : Nat} {sp : Sp}
theorem MtK.mt (M : MtK P w K mg base CX k C x qual st ps sp) : Mt P w K mg base CX k C x ps sp := by
  obtain ⟨f, fd, a, b, c, _⟩ := M.ex
  exact ⟨f, fd, a, b, c⟩
theorem Df.mtK (D : Df K x qual st f) (m : Meth K C x f) (S : FnScope N ps (defScope st)) (hb : HB st x qual ps) (len : ∀ vs H Q E, sp vs H Q E → vs.length = ps.length)
    (hbody : ∀ (cdv : Value) (A : Around) (outer : List Env) (s : Shared) (H : Hp) (vs : List V) (Q : VK) (E : XK), Room k (A.deeper (envOfC qual (defScope st) s.heap.objs.size f cdv)) → sp vs H Q E →
      ∃ t, PSs (cxOf CX P w K mg base N qual (defScope st) f cdv A outer s H E).nox (defBody st) t ∧ t { nx := fun _ H' => Q .non H', rt := Q } (start N vs) H) : MtK P w K mg base CX (k + 1) C x qual st ps sp := by
  obtain ⟨fd, a, b, c, oc, od, osl, lk⟩ := D.ok S hb len hbody
  obtain ⟨fd', FD⟩ := D.ex
  obtain ⟨oc', od', dV, kV, doc, pm, an, cdv, ct, osl', efd, lk', _⟩ := id FD.ex
  rw [lk] at lk'
  obtain rfl : fd = fd' := by injection lk' with z; injection z with _ _ z _; injection z with z
  exact ⟨f, fd, a, m, c, FD⟩
end
abbrev HBM (st : Stmt) (x qual : Str) (ps : List Str) : Prop := ∀ (kV doc pm : Value) (an : Option Addr) (cdv ct u : Value) (us : List Value), us.length + 1 = ps.length → bindArgs (PySem.W.fnOf x qual (defArgs st) (defBody st) (defScope st) .none kV doc pm an cdv ct) ⟨[u], ps.tail.zip us⟩ = pure (ps.zip (u :: us))
section
variable {X : Cx} {CX : CXT} {k : Nat} {C : Addr} {m qual : Str} {st : Stmt} {ps : List Str} {sp : Sp} {E : XK} {ta : TE} {tk : TA} {o : Expr} {pos apos : Pos} {kws : List Keyword}
def tMethK (C : Addr) (m : Str) (sp : Sp) (E : XK) (ta : TE) (t : TA) : TE := tMeth C m sp [] E ta t
theorem pe_mtK {pl : Sem Bool} (G : MtK X.prog X.w X.K X.mg X.base CX k C m qual st ps sp) (c : Cls X.K C) (hbm : HBM st m qual ps) (hr : Room k X.A) (he : PE X o ta) (hx : Passes CX X E) (hkw : PK X kws tk)
    (hks : (backToKw pos (keywordEach kws X.env)).filterMap (·.1) = ps.tail := by rfl) (hall : (backToKw pos (keywordEach kws X.env)).all (·.1.isSome) = true := by rfl)
    (hpl : ((backTo pos (starEach [] X.env)).any (·.1) || (backToKw pos (keywordEach kws X.env)).any (·.1.isNone)) = false := by rfl)
    (ht : eval (.Call (.Attribute o m apos) [] kws pos) X.env = (do
      let ov ← eval o X.env
      standAt apos.atName
      let (f, first) ← holding [ov] (getMethod ov m pl)
      callWith pos f first (backTo pos (starEach [] X.env)) (backToKw pos (keywordEach kws X.env))) := by rfl) :
    PE X (.Call (.Attribute o m apos) [] kws pos) (tMethK C m sp E ta tk) := by
  obtain ⟨f, fd, F, hm, hbn, FD⟩ := G.ex
  obtain ⟨oc, od, dV, kV, doc, pm, an, cdv, ct, osl, efd, lk, hcd, hD, hK⟩ := FD.ex
  refine ⟨fun pins s σ H Q I h => ?_⟩
  refine PySem.W.methodCall_KW (pl := pl) (thn (he.run pins s σ H _ I h) fun u s1 ⟨x, H1, I1, rx, a, dx, fs, ex, ea, l, q⟩ => ?_) ht
  subst ex
  obtain rfl : u = Value.ref a := rx
  refine getmeth_ok I1 ea c hm l ?_
  refine PySem.W.callWith_KW0 (first := [.ref a]) (h₀ := X.base) I.ok.mod.kin hm.kp hall (thn (hkw.run pos pins s1 σ H1 _ I1 q) fun ws s2 ⟨zs, H2, I2, rz, q2⟩ => ⟨I2.kIn, ?_⟩) hpl
  rw [hks]
  have q2 : sp (.ref a :: zs) H2 Q E := by simpa using q2
  have hl : (V.ref a :: zs).length = ps.length := F.len _ _ _ _ q2
  have hl2 : ws.length + 1 = ps.length := by rw [← hl, List.length_cons, rz.length]
  have r2 : Vals (V.ref a :: zs) (Value.ref a :: ws) := .cons rfl rz
  have hb : BindsTo s2 fd ⟨[.ref a], ps.tail.zip ws⟩ (ps.zip (.ref a :: ws)) := by
    subst efd
    rcases hD with ⟨_, rfl⟩ | ⟨e, _⟩
    · exact .of_eq (hbm kV doc pm an cdv ct _ ws hl2)
    · exact absurd rfl e
  refine wpAny_call (codeAny_mono (F.run X.A X.stack s2 H2 ⟨[.ref a], ps.tail.zip ws⟩ (.ref a :: ws) (.ref a :: zs) Q E hr I2.env0 hb r2 q2) fun r s' hq => ?_)
  cases r with
  | error e => exact hx pins σ H2 s2 e s' I2 hq
  | ok fl =>
    cases fl with
    | ret u => exact I2.after hq
    | next => exact False.elim hq
    | brk => exact False.elim hq
    | cont => exact False.elim hq
end
end Bz
end
section
set_option Elab.async false
set_option linter.all false
set_option maxRecDepth 100000
set_option maxHeartbeats 4000000
namespace Bz
open PySem PySem.Spec PyProof.Rows L2 LamX NdefX
section
variable {P : Program} {w : World} {K : PySem.W.Frag} {mg : Str → Option Value} {base : Heap}
abbrev N_is_number : List Str := ["value"]
theorem sc_is_number : FnScope N_is_number ["value"] (defScope s_is_number) := ⟨rfl, rfl, rfl, by decide +kernel, rfl, by decide +kernel, by decide +kernel⟩
theorem hb_is_number : HB s_is_number "is_number" "is_number" ["value"] := fun _ _ _ _ _ _ us hl => match us, hl with | [_], _ => rfl

/-- is_number(value) -/
def spIsNum (K : PySem.W.Frag) : Sp := fun vs H Q _ => ∃ (x : V) (r : Bool), vs = [x] ∧ ((∃ z : Int, x = .int z ∧ r = (decide (1 ≤ z) && decide (z ≤ (N40 : Nat)))) ∨ (∃ n, TyX K H x (.type n) ∧ whB n = some false ∧ r = false)) ∧ Q (.bl r) H
theorem g_is_number {f : Addr} (T : Bt mg) (hmn : ∃ t, mg "MOST_NUMBER" = some (.int 10000000000000000000000000000000000000000 t)) (D : Df K "is_number" "is_number" s_is_number f) (m : mg "is_number" = some (.ref f)) (G1 : Fn P w K mg base CXN 1 "is_whole" ["value"] (spWhole K)) : Fn P w K mg base CXN 2 "is_number" ["value"] (spIsNum K) := by
  refine D.fn m sc_is_number hb_is_number (fun vs H Q E ⟨x, r, e, _⟩ => by rw [e]; rfl) fun cdv A outer s H vs Q E hr ⟨x, r, e, h, k_⟩ => ?_
  subst e
  obtain ⟨tmn, hmn⟩ := hmn
  refine ⟨_, (pss_one (ps_ret (pe_and (pe_fn G1 hr (by rfl) pass0 (pa_cons (pv 0) pa_nil)) (pe_one (pe_chain op_le op_le pe_int (pv 0) (pe_glob (v := .int (10000000000000000000000000000000000000000)) rfl hmn ⟨_, rfl⟩)))))), ?_⟩
  rcases h with ⟨z, rfl, rfl⟩ | ⟨n, ty, wb, rfl⟩
  · refine ⟨_, rfl, _, "int", true, rfl, .base (.int _), wh_int, true, rfl, iteT ⟨_, rfl, _, _, rfl, rfl, _, rfl, ?_⟩⟩
    by_cases h1 : (1 : Int) ≤ z
    · rw [decide_eq_true h1] at k_ ⊢
      exact iteT ⟨_, _, rfl, rfl, k_⟩
    · rw [decide_eq_false h1] at k_ ⊢
      exact iteF k_
  · exact ⟨_, rfl, _, n, false, rfl, ty, wb, false, rfl, iteF k_⟩
abbrev N_check_number : List Str := ["number"]
theorem sc_check_number : FnScope N_check_number ["number"] (defScope s_check_number) := ⟨rfl, rfl, rfl, by decide +kernel, rfl, by decide +kernel, by decide +kernel⟩
theorem hb_check_number : HB s_check_number "check_number" "check_number" ["number"] := fun _ _ _ _ _ _ us hl => match us, hl with | [_], _ => rfl

def spCheckNum : Sp := fun vs H Q _ => ∃ n : Nat, vs = [.int n] ∧ 0 < n ∧ n ≤ N40 ∧ Q .non H
theorem good_num {n : Nat} (h : 0 < n) (h2 : n ≤ N40) : true = (decide ((1 : Int) ≤ (n : Int)) && decide ((n : Int) ≤ (N40 : Nat))) := by
  rw [decide_eq_true (show (1 : Int) ≤ (n : Int) by omega), decide_eq_true (show (n : Int) ≤ ((N40 : Nat) : Int) by exact Int.ofNat_le.mpr h2)]
  rfl
theorem g_check_number {f : Addr} (T : Bt mg) (D : Df K "check_number" "check_number" s_check_number f) (m : mg "check_number" = some (.ref f)) (G1 : Fn P w K mg base CXN 2 "is_number" ["value"] (spIsNum K)) : Fn P w K mg base CXN 3 "check_number" ["number"] spCheckNum := by
  refine D.fn m sc_check_number hb_check_number (fun vs H Q E ⟨n, e, _⟩ => by rw [e]; rfl) fun cdv A outer s H vs Q E hr ⟨n, e, h1, h2, k_⟩ => ?_
  subst e
  refine ⟨_, (pss_one (ps_if (pt_not (pt_val (pe_fn G1 hr (by rfl) pass0 (pa_cons (pv 0) pa_nil)))) (pss_one ps_never) pss_nil)), ?_⟩
  exact ⟨_, rfl, _, true, rfl, .inl ⟨n, rfl, good_num h1 h2⟩, true, rfl, iteF k_⟩
abbrev N_Kind_count : List Str := ["self", "number"]
theorem sc_Kind_count : FnScope N_Kind_count ["self", "number"] (defScope s_Kind_count) := ⟨rfl, rfl, rfl, by decide +kernel, rfl, by decide +kernel, by decide +kernel⟩
theorem hb_Kind_count : HB s_Kind_count "count" "Kind.count" ["self", "number"] := fun _ _ _ _ _ _ us hl => match us, hl with | [_, _], _ => rfl

def spKCount (CG C : Addr) (TT' : List NTab) : Sp := fun vs H Q _ => ∃ (a : Addr) (b n : Nat) (F : Nat → Bool), vs = [.ref a, .int n] ∧ KindAt CG C H a b F ∧ 0 < n ∧ n ≤ N40 ∧ TabsN TT' H ∧ ∀ H', Kx H H' → TabsN TT' H' → Q (.int (cb F (n + 1) : Nat)) H'
theorem g_Kcount {f CG C : Addr} {TT' : List NTab} (c : KiC K mg CG C) (D : Df K "count" "Kind.count" s_Kind_count f) (m : Meth K C "count" f) (G1 : Fn P w K mg base CXN 3 "check_number" ["number"] spCheckNum) (G2 : Fn P w K mg base CXN 5 "count_upto" ["grid", "number"] (spCountUp CG TT')) : MtK P w K mg base CXN 6 C "count" "Kind.count" s_Kind_count ["self", "number"] (spKCount CG C TT') := by
  refine D.mtK m sc_Kind_count hb_Kind_count (fun vs H Q E ⟨a, b, n, F, e, _⟩ => by rw [e]; rfl) fun cdv A outer s H vs Q E hr ⟨a, b, n, F, e, hk, h1, h2, hT, k_⟩ => ?_
  subst e
  refine ⟨_, (pss_cons (ps_expr (pe_fn G1 (hr.mono (by decide)) (by rfl) pass0 (pa_cons (pv 1) pa_nil)))
    (pss_one (ps_ret (pe_fn G2 hr (by rfl) pass0 (pa_cons (pe_fldK (K := K) rfl (pv 0) rfl) (pa_cons (pv 1) pa_nil)))))), ?_⟩
  obtain ⟨dx, pg, m1, g1, ms1, mk1, hx, hg1, hc1, hm1, hl1, hb, hb2⟩ := id hk
  exact ⟨_, rfl, n, rfl, h1, h2, _, rfl, a, C, dx, _, _, rfl, hx, c.cl, c.nG, lk_eq _ _ _, _, rfl, pg, b, m1, n, g1, ms1, mk1, F, rfl, hg1, hm1, hc1, hb, hb2, by omega, h1, Nat.lt_of_le_of_lt h2 N40_lt3, hT, k_⟩
theorem hbm_Kind_count : HBM s_Kind_count "count" "Kind.count" ["self", "number"] := fun _ _ _ _ _ _ _ us hl => match us, hl with | [_], _ => rfl
abbrev N_Kind_nth : List Str := ["self", "place"]
theorem sc_Kind_nth : FnScope N_Kind_nth ["self", "place"] (defScope s_Kind_nth) := ⟨rfl, rfl, rfl, by decide +kernel, rfl, by decide +kernel, by decide +kernel⟩
theorem hb_Kind_nth : HB s_Kind_nth "nth" "Kind.nth" ["self", "place"] := fun _ _ _ _ _ _ us hl => match us, hl with | [_, _], _ => rfl

def spKNth (CG C : Addr) (TT' : List NTab) : Sp := fun vs H Q _ => ∃ (a : Addr) (b n : Nat) (F : Nat → Bool), vs = [.ref a, .int n] ∧ KindAt CG C H a b F ∧ 0 < n ∧ n ≤ N40 ∧ TabsN TT' H ∧ ∀ v H', Kx H H' → TabsN TT' H' → NthR F n v → Q v H'
theorem g_Knth {f CG C : Addr} {TT' : List NTab} (c : KiC K mg CG C) (D : Df K "nth" "Kind.nth" s_Kind_nth f) (m : Meth K C "nth" f) (G1 : Fn P w K mg base CXN 2 "is_number" ["value"] (spIsNum K)) (G2 : Fn P w K mg base CXN 5 "number_at" ["grid", "place"] (spNumAt CG TT')) : MtK P w K mg base CXN 6 C "nth" "Kind.nth" s_Kind_nth ["self", "place"] (spKNth CG C TT') := by
  refine D.mtK m sc_Kind_nth hb_Kind_nth (fun vs H Q E ⟨a, b, n, F, e, _⟩ => by rw [e]; rfl) fun cdv A outer s H vs Q E hr ⟨a, b, n, F, e, hk, h1, h2, hT, k_⟩ => ?_
  subst e
  refine ⟨_, (pss_cons (ps_if (pt_not (pt_val (pe_fn G1 (hr.mono (by decide)) (by rfl) pass0 (pa_cons (pv 1) pa_nil)))) (pss_one ps_never) pss_nil)
    (pss_one (ps_ret (pe_fn G2 hr (by rfl) pass0 (pa_cons (pe_fldK (K := K) rfl (pv 0) rfl) (pa_cons (pv 1) pa_nil)))))), ?_⟩
  obtain ⟨dx, pg, m1, g1, ms1, mk1, hx, hg1, hc1, hm1, hl1, hb, hb2⟩ := id hk
  refine ⟨_, rfl, _, true, rfl, .inl ⟨n, rfl, good_num h1 h2⟩, true, rfl, iteF ?_⟩
  exact ⟨_, rfl, a, C, dx, _, _, rfl, hx, c.cl, c.nG, lk_eq _ _ _, _, rfl, pg, b, m1, n, g1, ms1, mk1, F, rfl, hg1, hm1, hc1, hb, hb2, by omega, h1, hT, k_⟩
theorem hbm_Kind_nth : HBM s_Kind_nth "nth" "Kind.nth" ["self", "place"] := fun _ _ _ _ _ _ _ us hl => match us, hl with | [_], _ => rfl
end
end Bz
end
section
set_option Elab.async false
set_option linter.all false
set_option maxRecDepth 100000
set_option maxHeartbeats 4000000
namespace Bz
open PySem PySem.Spec PyProof.Rows L2 LamX NdefX
theorem kz_new {a : Addr} {H H0 : Hp} {p : Addr} {u : HO} {k : Nat} (kz : Kz a H H0) (bg : BagAt H0 a k) (hp : H0 p = none) : p ≠ a ∧ H p = none ∧ Kz a H (upd H0 p u) ∧ Kz a H0 (upd H0 p u) ∧ BagAt (upd H0 p u) a k := by
  have na : p ≠ a := fun z => bg.nn (by rw [← z]; exact hp)
  have k2 : Kz a H0 (upd H0 p u) := (Sm.new hp).kz
  exact ⟨na, kz.dom _ hp, kz.trans k2, k2, bg.sm fun xs h => upd_get h hp⟩
def Pool.vals (q : Pool) : List V := [.int q.d, .int q.s, .int q.g, .int q.l]
section
variable {P : Program} {w : World} {K : PySem.W.Frag} {mg : Str → Option Value} {base : Heap}
/-- a test drawn: of the pool, of a depth -/
def spDrawT (n k : Nat) : Sp := fun vs H Q _ => ∃ (a pp : Addr) (q : Pool) (b m : Nat), vs = [.ref a, .ref pp] ∧ BagAt H a (m + n) ∧ H pp = some (.tup q.vals) ∧ q.Good b ∧ b ≤ 16 ∧ ∀ (p : Addr) (t : LT) H', LT.At H' p t → t.dep ≤ k → H p = none → t.inP q → Kz a H H' → BagAt H' a m → Q (.ref p) H'
abbrev N_law_plain : List Str := ["bag", "pool", "many", "adds", "fig", "last", "some"]
theorem sc_law_plain : FnScope N_law_plain ["bag", "pool"] (defScope s_law_plain) := ⟨rfl, rfl, rfl, by decide +kernel, rfl, by decide +kernel, by decide +kernel⟩
theorem hb_law_plain : HB s_law_plain "_law_plain" "_law_plain" ["bag", "pool"] := fun _ _ _ _ _ _ us hl => match us, hl with | [_, _], _ => rfl

theorem g_law_plain {f : Addr} (T : Bt mg) (D : Df K "_law_plain" "_law_plain" s_law_plain f) (m : mg "_law_plain" = some (.ref f)) (G1 : Fn P w K mg base CXN 1 "_law_draw" ["bag", "many"] spDraw) : Fn P w K mg base CXN 2 "_law_plain" ["bag", "pool"] (spDrawT 3 1) := by
  refine D.fn m sc_law_plain hb_law_plain (fun vs H Q E ⟨a, pp, q, b, n, e, _⟩ => by rw [e]; rfl) fun cdv A outer s H vs Q E hr ⟨a, pp, q, b, n, e, hb, hpp, G, hb16, k_⟩ => ?_
  subst e
  refine ⟨_, (pss_cons (ps_asg (pv 1) (pg_tup rfl (pgs_cons (pg_name (i := 2) sc_law_plain.nd rfl (Or.inl rfl)) (pgs_cons (pg_name (i := 3) sc_law_plain.nd rfl (Or.inl rfl)) (pgs_cons (pg_name (i := 4) sc_law_plain.nd rfl (Or.inl rfl)) (pgs_cons (pg_name (i := 5) sc_law_plain.nd rfl (Or.inl rfl)) pgs_nil))))))
    (pss_cons (ps_set (i := 6) sc_law_plain.nd rfl (Or.inl rfl) (pe_lst (pa_cons (pe_tup (pa_cons pe_str (pa_cons (pv 2) (pa_cons (pe_fn G1 hr (by rfl) pass0 (pa_cons (pv 0) (pa_cons (pv 2) pa_nil))) pa_nil)))) (pa_cons (pe_tup (pa_cons pe_str (pa_cons (pv 2) pa_nil))) (pa_cons (pe_tup (pa_cons pe_str (pa_cons (pv 4) pa_nil))) pa_nil)))))
    (pss_cons (ps_set (i := 6) sc_law_plain.nd rfl (Or.inl rfl) (pe_op op_cat (pv 6) (pe_lst (pa_cons (pe_tup (pa_cons pe_str (pa_cons (pv 5) pa_nil))) (pa_cons (pe_tup (pa_cons pe_str (pa_cons (pv 3) (pa_cons (pe_fn G1 hr (by rfl) pass0 (pa_cons (pv 0) (pa_cons (pv 3) pa_nil))) pa_nil)))) (pa_cons (pe_tup (pa_cons pe_str pa_nil)) pa_nil))))))
    (pss_one (ps_ret (pe_ix (ix_listK (K := K) rfl) (pv 6) (pe_ix (ix_listK (K := K) rfl) (pe_lst (pa_cons pe_int (pa_cons pe_int (pa_cons pe_int (pa_cons pe_int (pa_cons pe_int (pa_cons pe_int (pa_cons pe_int (pa_cons pe_int (pa_cons pe_int pa_nil)))))))))) (pe_fn G1 hr (by rfl) pass0 (pa_cons (pv 0) (pa_cons pe_int pa_nil))) (fun _ _ => rfl)) (fun _ _ => rfl))))))), ?_⟩
  have b1000 : (16 : Nat) < 2 ^ 1000 := by decide +kernel
  have lt1000 : ∀ x : Nat, x ≤ 16 → x < 2 ^ 1000 := fun x h => Nat.lt_of_le_of_lt h b1000
  have gd := G.d12
  have gd2 := G.d2
  have gs := G.s12
  have gs2 := G.s2
  refine ⟨_, rfl, pp, _, rfl, SqT.of hpp, rfl, _, _, rfl, _, _, rfl, _, _, rfl, _, _, rfl, rfl, ?_⟩
  refine ⟨_, rfl, _, rfl, _, rfl, a, q.d, n + 2, rfl, hb, by omega, lt1000 _ (by omega), fun r1 H1 hr1 kz1 bg1 => ?_⟩
  refine ⟨by show 3 ≤ sizeLine; decide, fun p1 hp1 => ?_⟩
  obtain ⟨n1, f1, c1, s1, g1⟩ := kz_new (u := .tup [.str "rest", .int q.d, .int r1]) kz1 bg1 hp1
  refine ⟨_, rfl, by show 2 ≤ sizeLine; decide, fun p2 hp2 => ?_⟩
  obtain ⟨n2, f2, c2, s2, g2⟩ := kz_new (u := .tup [.str "multiple", .int q.d]) c1 g1 hp2
  refine ⟨_, rfl, by show 2 ≤ sizeLine; decide, fun p3 hp3 => ?_⟩
  obtain ⟨n3, f3, c3, s3, g3⟩ := kz_new (u := .tup [.str "bears", .int q.g]) c2 g2 hp3
  refine ⟨by show 3 ≤ sizeLine; decide, fun l1 hl1 => ?_⟩
  obtain ⟨nl1, fl1, cl1, sl1, gl1⟩ := kz_new (u := .lst [.ref p1, .ref p2, .ref p3]) c3 g3 hl1
  refine ⟨_, rfl, _, rfl, by show 2 ≤ sizeLine; decide, fun p4 hp4 => ?_⟩
  obtain ⟨n4, f4, c4, s4, g4⟩ := kz_new (u := .tup [.str "ends", .int q.l]) cl1 gl1 hp4
  refine ⟨_, rfl, _, rfl, _, rfl, a, q.s, n + 1, rfl, g4, by omega, lt1000 _ (by omega), fun r' H5 hr5 kz5 bg5 => ?_⟩
  have c45 := c4.trans kz5
  refine ⟨by show 3 ≤ sizeLine; decide, fun p5 hp5 => ?_⟩
  obtain ⟨n5, f5, c5, s5, g5⟩ := kz_new (u := .tup [.str "sum", .int q.s, .int r']) c45 bg5 hp5
  refine ⟨by show 1 ≤ sizeLine; decide, fun p6 hp6 => ?_⟩
  obtain ⟨n6, f6, c6, s6, g6⟩ := kz_new (u := .tup [.str "every"]) c5 g5 hp6
  refine ⟨by show 3 ≤ sizeLine; decide, fun l2 hl2 => ?_⟩
  obtain ⟨nl2, fl2, cl2, sl2, gl2⟩ := kz_new (u := .lst [.ref p4, .ref p5, .ref p6]) c6 g6 hl2
  have k6 := s6.trans sl2
  have k5 := s5.trans k6
  have k4 := kz5.trans k5
  have kl1 := s4.trans k4
  have k3 := sl1.trans kl1
  have k2 := s3.trans k3
  have k1 := s2.trans k2
  refine ⟨l1, l2, _, _, rfl, rfl, kl1.at_ _ _ nl1 upd_same, upd_same, by show 3 + 3 ≤ sizeLine; decide, fun l3 hl3 => ?_⟩
  obtain ⟨nl3, fl3, cl3, sl3, gl3⟩ := kz_new (u := .lst ([.ref p1, .ref p2, .ref p3] ++ [.ref p4, .ref p5, .ref p6])) cl2 gl2 hl3
  refine ⟨_, rfl, by show 9 ≤ sizeLine; decide, fun l4 hl4 => ?_⟩
  obtain ⟨nl4, fl4, cl4, sl4, gl4⟩ := kz_new (u := .lst [.int 0, .int 0, .int 1, .int 2, .int 2, .int 3, .int 4, .int 4, .int 5]) cl3 gl3 hl4
  refine ⟨_, rfl, a, 9, n, rfl, gl4, by decide, lt1000 _ (by decide), fun w1 H6 hw kz6 bg6 => ?_⟩
  have Kl4 := kz6
  have Kl3 := sl4.trans kz6
  have Kl2 := sl3.trans Kl3
  have K6 := k6.trans Kl2
  have K5 := k5.trans Kl2
  have K4 := k4.trans Kl2
  have K3 := k3.trans Kl2
  have K2 := k2.trans Kl2
  have K1 := k1.trans Kl2
  obtain ⟨j, hj, hj6⟩ : ∃ j : Nat, [V.int 0, V.int 0, V.int 1, V.int 2, V.int 2, V.int 3, V.int 4, V.int 4, V.int 5][w1]? = some (.int j) ∧ j < 6 := by
    have hc : w1 = 0 ∨ w1 = 1 ∨ w1 = 2 ∨ w1 = 3 ∨ w1 = 4 ∨ w1 = 5 ∨ w1 = 6 ∨ w1 = 7 ∨ w1 = 8 := by omega
    rcases hc with rfl | rfl | rfl | rfl | rfl | rfl | rfl | rfl | rfl <;> exact ⟨_, rfl, by decide⟩
  refine ⟨l4, _, _, _, rfl, rfl, SqL.of (Kl4.at_ _ _ nl4 upd_same), atI_nat hj, ?_⟩
  obtain ⟨p, t, e, h1, h2, h3⟩ : ∃ (p : Addr) (t : PT), [V.ref p1, V.ref p2, V.ref p3, V.ref p4, V.ref p5, V.ref p6][j]? = some (.ref p) ∧ H6 p = some (.tup t.vals) ∧ H p = none ∧ t.inP q := by
    have hc : j = 0 ∨ j = 1 ∨ j = 2 ∨ j = 3 ∨ j = 4 ∨ j = 5 := by omega
    rcases hc with rfl | rfl | rfl | rfl | rfl | rfl
    · exact ⟨p1, .rest q.d r1, rfl, K1.at_ _ _ n1 upd_same, f1, rfl, hr1⟩
    · exact ⟨p2, .multiple q.d, rfl, K2.at_ _ _ n2 upd_same, f2, rfl⟩
    · exact ⟨p3, .bears q.g, rfl, K3.at_ _ _ n3 upd_same, f3, rfl⟩
    · exact ⟨p4, .ends q.l, rfl, K4.at_ _ _ n4 upd_same, f4, rfl⟩
    · exact ⟨p5, .sum q.s r', rfl, K6.at_ _ _ n5 upd_same, f5, rfl, hr5⟩
    · exact ⟨p6, .every, rfl, (sl2.trans Kl2).at_ _ _ n6 upd_same, f6, True.intro⟩
  exact ⟨l3, _, _, .ref p, rfl, rfl, SqL.of (Kl3.at_ _ _ nl3 upd_same), atI_nat e, k_ p (.pl t) _ h1 (Nat.le_refl _) h2 h3 (cl4.trans kz6) bg6⟩
abbrev N_law_test : List Str := ["bag", "pool", "found", "k", "way", "part", "one", "two"]
theorem sc_law_test : FnScope N_law_test ["bag", "pool"] (defScope s_law_test) := ⟨rfl, rfl, rfl, by decide +kernel, rfl, by decide +kernel, by decide +kernel⟩
theorem hb_law_test : HB s_law_test "_law_test" "_law_test" ["bag", "pool"] := fun _ _ _ _ _ _ us hl => match us, hl with | [_, _], _ => rfl

theorem kz_in {a : Addr} {k : Nat} {H H' : Hp} {p : Addr} {t : LT} (bg : BagAt H a k) (kz : Kz a H H') (h : LT.At H p t) : LT.At H' p t := h.kz bg kz
theorem g_law_test {f : Addr} (T : Bt mg) (D : Df K "_law_test" "_law_test" s_law_test f) (m : mg "_law_test" = some (.ref f)) (G1 : Fn P w K mg base CXN 1 "_law_draw" ["bag", "many"] spDraw) (G2 : Fn P w K mg base CXN 2 "_law_plain" ["bag", "pool"] (spDrawT 3 1)) : Fn P w K mg base CXN 3 "_law_test" ["bag", "pool"] (spDrawT 15 5) := by
  refine D.fn m sc_law_test hb_law_test (fun vs H Q E ⟨a, pp, q, b, n, e, _⟩ => by rw [e]; rfl) fun cdv A outer s H vs Q E hr ⟨a, pp, q, b, n, e, hb, hpp, G, hb16, k_⟩ => ?_
  subst e
  refine ⟨_, (pss_cons (ps_set (i := 2) sc_law_test.nd rfl (Or.inl rfl) (pe_fn G2 hr (by rfl) pass0 (pa_cons (pv 0) (pa_cons (pv 1) pa_nil))))
    (pss_cons (ps_for PassesOwn.never rfl (pi_range1 rfl T.range (pa_cons (pe_fn G1 (hr.mono (by decide)) (by rfl) pass0 (pa_cons (pv 0) (pa_cons pe_int pa_nil))) pa_nil)) (pg_name (i := 3) sc_law_test.nd rfl (Or.inl rfl)) (pss_cons (ps_par (i := 4) (j := 5) (by rfl) sc_law_test.nd rfl rfl (by decide) rfl rfl (pa_cons (pe_fn G1 (hr.mono (by decide)) (by rfl) pass0 (pa_cons (pv 0) (pa_cons pe_int pa_nil))) (pa_cons (pe_fn G2 hr (by rfl) pass0 (pa_cons (pv 0) (pa_cons (pv 1) pa_nil))) pa_nil)) (by rfl))
    (C8.pss_cut (ps_if (pt_cmpR (op_eq) (pe_fn G1 (hr.mono (by decide)) (by rfl) pass0 (pa_cons (pv 0) (pa_cons pe_int pa_nil))) pe_int (nomark _)) (pss_one (ps_set (i := 5) sc_law_test.nd rfl (Or.inl rfl) (pe_tup (pa_cons pe_str (pa_cons (pv 5) pa_nil))))) pss_nil)
    (C8.pss_cut (ps_asg (pe_ifExp (pt_cmpR (op_lt) (pv 4) pe_int (nomark _)) (pe_tup (pa_cons (pv 2) (pa_cons (pv 5) pa_nil))) (pe_tup (pa_cons (pv 5) (pa_cons (pv 2) pa_nil)))) (pg_tup rfl (pgs_cons (pg_name (i := 6) sc_law_test.nd rfl (Or.inl rfl)) (pgs_cons (pg_name (i := 7) sc_law_test.nd rfl (Or.inl rfl)) pgs_nil))))
    (pss_one (ps_set (i := 2) sc_law_test.nd rfl (Or.inl rfl) (pe_tup (pa_cons (pe_ix (ix_listK (K := K) rfl) (pe_lst (pa_cons pe_str (pa_cons pe_str (pa_cons pe_str pa_nil)))) (pe_op op_modN (pe_callTy call_int1 (by rfl) T.int (by decide +kernel) (pa_cons (pv 4) pa_nil)) pe_int) (fun _ _ => rfl)) (pa_cons (pv 6) (pa_cons (pv 7) pa_nil))))))))))
    (pss_one (ps_ret (pe_ifExp (pt_cmpR (op_eq) (pe_fn G1 (hr.mono (by decide)) (by rfl) pass0 (pa_cons (pv 0) (pa_cons pe_int pa_nil))) pe_int (nomark _)) (pe_tup (pa_cons pe_str (pa_cons (pv 2) pa_nil))) (pv 2)))))), ?_⟩
  have b1000 : (16 : Nat) < 2 ^ 1000 := by decide +kernel
  have lt1000 : ∀ x : Nat, x ≤ 16 → x < 2 ^ 1000 := fun x h => Nat.lt_of_le_of_lt h b1000
  refine ⟨_, rfl, _, rfl, a, pp, q, b, n + 12, rfl, hb, hpp, G, hb16, fun p0 t0 H1 hp0 hd0 hf0 ho0 kz1 bg1 => ?_⟩
  have hpp1 := kz_tup hb kz1 _ _ hpp
  refine ⟨_, rfl, a, 3, n + 11, rfl, bg1, by decide, lt1000 _ (by decide), fun r0 H2 hr0 kz2 bg2 => ?_⟩
  refine ⟨_, rfl, by omega, by omega, for_range (lo := 0) (n := r0) (fun i σ H' => ∃ (p : Addr) (t : LT) (o4 o5 o6 o7 o8 : Option V), σ = [some (.ref a), some (.ref pp), some (.ref p), o4, o5, o6, o7, o8] ∧ LT.At H' p t ∧ t.dep ≤ 1 + i + (if i = 0 then 0 else 1) ∧ H p = none ∧ t.inP q ∧ Kz a H H' ∧ BagAt H' a (n + 11 - 5 * i))
    ⟨p0, t0, _, _, _, _, _, rfl, hp0.kz bg1 kz2, by simpa using hd0, hf0, ho0, kz1.trans kz2, bg2⟩ ?_ ?_⟩
  · rintro i σ H3 hi ⟨p, t, o4, o5, o6, o7, o8, rfl, hpt, hdt, hfp, hot, kz3, bg3⟩
    have hi2 : i < 2 := by omega
    have hpp3 := kz_tup hb kz3 _ _ hpp
    refine ⟨_, rfl, a, 6, n + 11 - 5 * i - 1, rfl, bg3.mono (by omega), by decide, lt1000 _ (by decide), fun w1 H4 hw kz4 bg4 => ?_⟩
    have hpp4 := kz_tup bg3 kz4 _ _ hpp3
    refine ⟨_, rfl, _, rfl, a, pp, q, b, n + 11 - 5 * i - 4, rfl, bg4.mono (by omega), hpp4, G, hb16, fun p1 t1 H5 hp1 hd1 hf1 ho1 kz5 bg5 => ?_⟩
    refine ⟨_, _, rfl, ?_⟩
    have hpt5 : LT.At H5 p t := (hpt.kz bg3 kz4).kz bg4 kz5
    have kz35 := kz3.trans (kz4.trans kz5)
    have step : ∀ (p2 : Addr) (t2 : LT), t2.dep ≤ 2 → t2.inP q → ∀ (x y : LT) (op : Nat), op < 3 → (x = t ∧ y = t2 ∨ x = t2 ∧ y = t) → ∃ u : LT, ∀ (H8 : Hp) (hd : Str) (px py z : Addr), ([.str "and", .str "or", .str "xor"] : List V)[op]? = some (.str hd) → LT.At H8 px x → LT.At H8 py y → H8 z = some (.tup [.str hd, .ref px, .ref py]) → LT.At H8 z u ∧ u.dep ≤ 1 + (i + 1) + (if i + 1 = 0 then 0 else 1) ∧ u.inP q := fun p2 t2 hd2 ho2 x y op hop hxy => by
      have hdx : max x.dep y.dep + 1 ≤ 1 + (i + 1) + (if i + 1 = 0 then 0 else 1) := by
        rw [if_neg (by omega)]
        have : t.dep ≤ 1 + i + 1 := by
          refine Nat.le_trans hdt ?_
          split <;> omega
        have : t.dep ≤ 2 + i ∧ (i = 0 → t.dep ≤ 1) := ⟨by omega, fun z => by rw [z] at hdt; simpa using hdt⟩
        rcases hxy with ⟨rfl, rfl⟩ | ⟨rfl, rfl⟩ <;> omega
      have hox : x.inP q ∧ y.inP q := by
        rcases hxy with ⟨rfl, rfl⟩ | ⟨rfl, rfl⟩
        · exact ⟨hot, ho2⟩
        · exact ⟨ho2, hot⟩
      have hc : op = 0 ∨ op = 1 ∨ op = 2 := by omega
      rcases hc with rfl | rfl | rfl
      · exact ⟨.and x y, fun H8 hd px py z e h1 h2 h3 => by cases e; exact ⟨⟨px, py, h3, h1, h2⟩, hdx, hox⟩⟩
      · exact ⟨.or x y, fun H8 hd px py z e h1 h2 h3 => by cases e; exact ⟨⟨px, py, h3, h1, h2⟩, hdx, hox⟩⟩
      · exact ⟨.xor x y, fun H8 hd px py z e h1 h2 h3 => by cases e; exact ⟨⟨px, py, h3, h1, h2⟩, hdx, hox⟩⟩
    refine ⟨fun σ' H' => ∃ (p2 : Addr) (t2 : LT) (o7 o8 : Option V), σ' = [some (.ref a), some (.ref pp), some (.ref p), some (.int i), some (.int w1), some (.ref p2), o7, o8] ∧ LT.At H' p2 t2 ∧ t2.dep ≤ 2 ∧ t2.inP q ∧ LT.At H' p t ∧ Kz a H H' ∧ BagAt H' a (n + 11 - 5 * i - 5), ?_, ?_⟩
    · refine ⟨_, rfl, a, 3, n + 11 - 5 * i - 5, rfl, bg5.mono (by omega), by decide, lt1000 _ (by decide), fun r2 H6 hr2 kz6 bg6 => ⟨rfl, _, rfl, ?_⟩⟩
      have hpt6 := hpt5.kz bg5 kz6
      have hp16 := hp1.kz bg5 kz6
      have kz36 := kz35.trans kz6
      refine ifb (fun _ => ?_) (fun _ => ?_)
      · refine ⟨_, rfl, by show 2 ≤ sizeLine; decide, fun pn hpn => ?_⟩
        obtain ⟨nn, fn, cn, sn, gn⟩ := kz_new (u := .tup [.str "not", .ref p1]) kz36 bg6 hpn
        exact ⟨pn, .not t1, _, _, by rw [Int.zero_add] <;> rfl, ⟨p1, upd_same, hp16.kz bg6 sn⟩, by show t1.dep + 1 ≤ 2; omega, ho1, hpt6.kz bg6 sn, cn, gn⟩
      · exact ⟨p1, t1, _, _, by rw [Int.zero_add] <;> rfl, hp16, by omega, ho1, hpt6, kz36, bg6⟩
    · rintro σ7 H7 ⟨p2, t2, o7, o8, rfl, hp2, hd2, ho2, hpt7, kz7, bg7⟩
      refine ⟨fun σ' H' => ∃ (px py : Addr) (x y : LT), σ' = [some (.ref a), some (.ref pp), some (.ref p), some (.int i), some (.int w1), some (.ref p2), some (.ref px), some (.ref py)] ∧ LT.At H' px x ∧ LT.At H' py y ∧ (x = t ∧ y = t2 ∨ x = t2 ∧ y = t) ∧ Kz a H H' ∧ BagAt H' a (n + 11 - 5 * i - 5), ?_, ?_⟩
      · refine ⟨_, rfl, _, _, rfl, rfl, _, rfl, ?_⟩
        refine ifb (fun _ => ?_) (fun _ => ?_)
        · refine ⟨_, rfl, _, rfl, by show 2 ≤ sizeLine; decide, fun pn hpn => ?_⟩
          obtain ⟨nn, fn, cn, sn, gn⟩ := kz_new (u := .tup [.ref p, .ref p2]) kz7 bg7 hpn
          exact ⟨pn, _, rfl, SqT.of upd_same, rfl, _, _, rfl, _, _, rfl, rfl, p, p2, t, t2, rfl, hpt7.kz bg7 sn, hp2.kz bg7 sn, .inl ⟨rfl, rfl⟩, cn, gn⟩
        · refine ⟨_, rfl, _, rfl, by show 2 ≤ sizeLine; decide, fun pn hpn => ?_⟩
          obtain ⟨nn, fn, cn, sn, gn⟩ := kz_new (u := .tup [.ref p2, .ref p]) kz7 bg7 hpn
          exact ⟨pn, _, rfl, SqT.of upd_same, rfl, _, _, rfl, _, _, rfl, rfl, p2, p, t2, t, rfl, hp2.kz bg7 sn, hpt7.kz bg7 sn, .inr ⟨rfl, rfl⟩, cn, gn⟩
      · rintro σ8 H8 ⟨px, py, x, y, rfl, hx, hy, hxy, kz8, bg8⟩
        refine ⟨by show 3 ≤ sizeLine; decide, fun pl hpl => ?_⟩
        obtain ⟨nl, fl, cl, sl, gl⟩ := kz_new (u := .lst [.str "and", .str "or", .str "xor"]) kz8 bg8 hpl
        obtain ⟨hd, hhd⟩ : ∃ hd : Str, ([.str "and", .str "or", .str "xor"] : List V)[w1 % 3]? = some (.str hd) := by
          have hc : w1 % 3 = 0 ∨ w1 % 3 = 1 ∨ w1 % 3 = 2 := by omega
          rcases hc with e | e | e <;> rw [e] <;> exact ⟨_, rfl⟩
        have em : ((w1 : Int)).fmod 3 = ((w1 % 3 : Nat) : Int) := modN_cast w1 3
        refine ⟨_, rfl, .inl ⟨_, rfl, _, _, rfl, rfl, show (3 : Int) ≠ 0 by decide, pl, _, _, .str hd, rfl, rfl, SqL.of upd_same, by rw [em]; exact atI_nat hhd, ?_⟩⟩
        refine ⟨_, rfl, _, rfl, by show 3 ≤ sizeLine; decide, fun pt hpt => ?_⟩
        obtain ⟨nt, ft, ct, st, gt⟩ := kz_new (u := .tup [.str hd, .ref px, .ref py]) cl gl hpt
        obtain ⟨u, hu⟩ := step p2 t2 hd2 ho2 x y (w1 % 3) (by omega) hxy
        obtain ⟨u1, u2, u3⟩ := hu _ hd px py pt hhd ((hx.kz bg8 sl).kz gl st) ((hy.kz bg8 sl).kz gl st) upd_same
        exact ⟨pt, u, _, _, _, _, _, rfl, u1, u2, ft, u3, ct, gt.mono (by omega)⟩
  · rintro σ H3 ⟨p, t, o4, o5, o6, o7, o8, rfl, hpt, hdt, hfp, hot, kz3, bg3⟩
    have hd4 : t.dep ≤ 4 := by
      refine Nat.le_trans hdt ?_
      split <;> omega
    refine ⟨_, rfl, a, 5, n, rfl, bg3.mono (by omega), by decide, lt1000 _ (by decide), fun r3 H4 hr3 kz4 bg4 => ⟨rfl, _, rfl, ?_⟩⟩
    have hpt4 := hpt.kz bg3 kz4
    have kz34 := kz3.trans kz4
    refine ifb (fun _ => ?_) (fun _ => ?_)
    · refine ⟨_, rfl, by show 2 ≤ sizeLine; decide, fun pn hpn => ?_⟩
      obtain ⟨nn, fn, cn, sn, gn⟩ := kz_new (u := .tup [.str "not", .ref p]) kz34 bg4 hpn
      exact k_ pn (.not t) _ ⟨p, upd_same, hpt4.kz bg4 sn⟩ (by show t.dep + 1 ≤ 5; omega) fn hot cn gn
    · exact ⟨_, rfl, k_ p t _ hpt4 (by omega) hfp hot kz34 bg4⟩
end
end Bz
end
section
set_option Elab.async false
set_option linter.all false
set_option maxRecDepth 100000
set_option maxHeartbeats 8000000
namespace Bz
open PySem PySem.Spec PyProof.Rows L2 LamX NdefX
/-- all but the bag and the tables of names stays -/
structure Kw (a : Addr) (H H' : Hp) : Prop where
  at_ : ∀ x o, x ≠ a → H x = some o → (∀ ps, o ≠ .tbl ps) → H' x = some o
  dom : ∀ x, H' x = none → H x = none
theorem Kz.kw {a : Addr} {H H' : Hp} (k : Kz a H H') : Kw a H H' := ⟨fun x o n h _ => k.at_ x o n h, k.dom⟩
theorem Kx.kw {a : Addr} {H H' : Hp} (k : Kx H H') : Kw a H H' := ⟨fun x o _ h t => k.ext x o h t, k.dom⟩
theorem Kw.trans {a : Addr} {H H1 H2 : Hp} (x : Kw a H H1) (y : Kw a H1 H2) : Kw a H H2 := ⟨fun b o n h t => y.at_ b o n (x.at_ b o n h t) t, fun b h => x.dom b (y.dom b h)⟩
theorem spIn_mono {K : PySem.W.Frag} {CG C : Addr} : ∀ vs H (Q Q' : VK) E, (∀ v H', Q v H' → Q' v H') → spIn K CG C vs H Q E → spIn K CG C vs H Q' E := fun vs H Q Q' E h ⟨a, x, b, F, r, e, k1, k2, k3⟩ => ⟨a, x, b, F, r, e, k1, k2, fun H' e => h _ _ (k3 H' e)⟩
theorem tabs_kz {TT' : List NTab} {a : Addr} {n : Nat} {H H' : Hp} (bg : BagAt H a n) (k : Kz a H H') (t : TabsN TT' H) : TabsN TT' H' := fun p hp => by
  obtain ⟨b0, b1, b2, hb, _⟩ := bg
  obtain ⟨ps, h1, h2, h3⟩ := t p hp
  refine ⟨ps, k.at_ _ _ (fun z => by rw [z, hb] at h1; cases h1) h1, h2, fun pos cv hc => ?_⟩
  obtain ⟨c, e1, e2⟩ := h3 pos cv hc
  exact ⟨c, e1, k.at_ _ _ (fun z => by rw [z, hb] at e2; unfold CodeO at e2; cases e2) e2⟩
theorem GridAt.kz {CG : Addr} {a : Addr} {n b m : Nat} {H H' : Hp} {p : Addr} {g : Rows} {ms : List V} (bg : BagAt H a n) (k : Kz a H H') (wf : Wf b m g) (h : GridAt CG H p b g ms) : GridAt CG H' p b g ms := by
  obtain ⟨b0, b1, b2, hb, _, _, hz⟩ := bg
  obtain ⟨dx, pg, pm, h1, ⟨as, r1, r2, r3⟩, h3⟩ := h
  refine ⟨dx, pg, pm, k.at_ _ _ (fun z => by rw [z, hb] at h1; cases h1) h1, ⟨as, k.at_ _ _ (fun z => ?_) r1, r2, fun i r hr => ?_⟩, k.at_ _ _ (fun z => by rw [z, hb] at h3; cases h3) h3⟩
  · rw [z, hb] at r1
    cases as with
    | nil => cases r1
    | cons x as => cases r1
  · obtain ⟨q, h4, h5⟩ := r3 i r hr
    refine ⟨q, h4, k.at_ _ _ (fun z => ?_) h5⟩
    rw [z, hb] at h5
    have h6 : [V.int (b0 : Nat), V.int (b1 : Nat), V.int (b2 : Nat)] = r.map oV := by
      injection h5 with h5
      injection h5
    have h7 : V.int (0 : Nat) ∈ r.map oV := by
      rw [← h6]
      rcases hz with z | z <;> simp [z]
    obtain ⟨o, ho, e⟩ := List.mem_map.mp h7
    have ho2 : o = some 0 := by
      cases o with
      | none => cases e
      | some t =>
        have e : V.int (t : Nat) = V.int (0 : Nat) := e
        injection e with e
        rw [show t = 0 by omega]
    obtain ⟨f, hf⟩ := List.mem_iff_getElem?.mp ho
    rw [ho2] at hf
    have en := ent_of hr hf
    have hfl : f < b := by
      have := (List.getElem?_eq_some_iff.mp hf).1
      rw [wf.row _ _ hr] at this
      exact this
    have hi : i ≤ m := by
      have := (List.getElem?_eq_some_iff.mp hr).1
      rw [wf.len] at this
      omega
    by_cases h0 : 0 < i ∨ 0 < f
    · obtain ⟨t, e1, e2, _⟩ := wf.ent i f hi hfl h0
      rw [en] at e1
      cases e1
      omega
    · have i0 : i = 0 := by omega
      have f0 : f = 0 := by omega
      rw [i0, f0, wf.e00] at en
      cases en
theorem KindAt.kz {CG C : Addr} {a : Addr} {n b : Nat} {H H' : Hp} {x : Addr} {F : Nat → Bool} (bg : BagAt H a n) (k : Kz a H H') (h : KindAt CG C H x b F) : KindAt CG C H' x b F := by
  obtain ⟨dx, pg, m, g, ms, mk, h1, h2, h3, h4, h5⟩ := h
  obtain ⟨b0, b1, b2, hb, _⟩ := id bg
  exact ⟨dx, pg, m, g, ms, mk, k.at_ _ _ (fun z => by rw [z, hb] at h1; cases h1) h1, h2.kz bg k h3.met.wf, h3, ⟨h4.len, fun s a c => h4.at_ s a c⟩, h5⟩
end Bz
end
section
set_option Elab.async false
set_option linter.all false
set_option maxRecDepth 100000
set_option maxHeartbeats 8000000
namespace Bz
open PySem PySem.Spec PyProof.Rows L2 LamX NdefX
/-! ### members by listing -/
def mems (F : Nat → Bool) (k : Nat) : List Nat := ((List.range k).map (· + 1)).filter F
theorem mems_succ (F : Nat → Bool) (k : Nat) : mems F (k + 1) = mems F k ++ if F (k + 1) = true then [k + 1] else [] := by
  unfold mems
  rw [List.range_succ, List.map_append, List.filter_append, List.map_cons, List.map_nil]
  congr 1
  by_cases h : F (k + 1) = true
  · rw [if_pos h, List.filter_cons_of_pos h]; rfl
  · rw [if_neg h, List.filter_cons_of_neg h]; rfl
theorem cb_succ (F : Nat → Bool) (k : Nat) : cb F (k + 1 + 1) = cb F (k + 1) + if F (k + 1) = true then 1 else 0 := by
  show cb F (k + 1) + (if 0 < k + 1 ∧ F (k + 1) = true then 1 else 0) = _
  by_cases h : F (k + 1) = true
  · rw [if_pos h, if_pos ⟨by omega, h⟩]
  · rw [if_neg h, if_neg fun z => h z.2]
theorem cb_one (F : Nat → Bool) : cb F 1 = 0 := by
  show cb F 0 + (if 0 < 0 ∧ F 0 = true then 1 else 0) = 0
  rw [if_neg (by omega)]; rfl
theorem mems_len (F : Nat → Bool) : ∀ k, (mems F k).length = cb F (k + 1) := by
  intro k
  induction k with
  | zero => rw [cb_one]; rfl
  | succ k ih =>
    rw [mems_succ, cb_succ, List.length_append, ih]
    split <;> rfl
theorem mems_mem {F : Nat → Bool} {k x : Nat} (h : x ∈ mems F k) : 0 < x ∧ x ≤ k ∧ F x = true := by
  unfold mems at h
  obtain ⟨h1, h2⟩ := List.mem_filter.mp h
  obtain ⟨i, hi, rfl⟩ := List.mem_map.mp h1
  have := List.mem_range.mp hi
  exact ⟨by omega, by omega, h2⟩
theorem mems_le_len (F : Nat → Bool) (n : Nat) : ∀ k, ((mems F k).filter fun m => decide (m ≤ n)).length = cb F (min k n + 1) := by
  intro k
  induction k with
  | zero => rw [Nat.zero_min, cb_one]; rfl
  | succ k ih =>
    rw [mems_succ, List.filter_append, List.length_append, ih]
    by_cases hk : k + 1 ≤ n
    · rw [Nat.min_eq_left hk, Nat.min_eq_left (by omega), cb_succ]
      congr 1
      by_cases hF : F (k + 1) = true
      · rw [if_pos hF, if_pos hF, List.filter_cons_of_pos (by simpa using hk)]; rfl
      · rw [if_neg hF, if_neg hF]; rfl
    · rw [show min (k + 1) n = min k n by omega]
      have : ((if F (k + 1) = true then [k + 1] else []).filter fun m => decide (m ≤ n)).length = 0 := by
        by_cases hF : F (k + 1) = true
        · rw [if_pos hF, List.filter_cons_of_neg (by simpa using hk)]; rfl
        · rw [if_neg hF]; rfl
      rw [this]; rfl
theorem mems_get {F : Nat → Bool} : ∀ {k j x : Nat}, (mems F k)[j]? = some x → F x = true ∧ cb F (x + 1) = j + 1 ∧ 0 < x ∧ x ≤ k := by
  intro k
  induction k with
  | zero => intro j x h; simp [mems] at h
  | succ k ih =>
    intro j x h
    rw [mems_succ] at h
    by_cases hj : j < (mems F k).length
    · rw [List.getElem?_append_left hj] at h
      obtain ⟨h1, h2, h3, h4⟩ := ih h
      exact ⟨h1, h2, h3, by omega⟩
    · rw [List.getElem?_append_right (by omega)] at h
      by_cases hF : F (k + 1) = true
      · rw [if_pos hF] at h
        have hj2 : j - (mems F k).length = 0 := by
          have := (List.getElem?_eq_some_iff.mp h).1
          simpa using this
        rw [hj2] at h
        have h : k + 1 = x := Option.some.inj h
        subst h
        refine ⟨hF, ?_, by omega, by omega⟩
        rw [cb_succ, if_pos hF, ← mems_len]
        omega
      · rw [if_neg hF] at h
        simp at h
theorem cb_inj {F : Nat → Bool} {n k : Nat} (h0 : 0 < n) (h0' : 0 < k) (h1 : F n = true) (h2 : F k = true) (h : cb F (n + 1) = cb F (k + 1)) : n = k := by
  have key : ∀ a b : Nat, 0 < b → F b = true → a < b → cb F (a + 1) < cb F (b + 1) := fun a b hb hF hlt => by
    have := cb_mono F (show a + 1 ≤ b by omega)
    obtain ⟨c, rfl⟩ : ∃ c, b = c + 1 := ⟨b - 1, by omega⟩
    rw [cb_succ, if_pos hF]
    omega
  rcases Nat.lt_trichotomy n k with hlt | rfl | hlt
  · have := key n k h0' h2 hlt; omega
  · rfl
  · have := key k n h0 h1 hlt; omega
section
variable {P : Program} {w : World} {K : PySem.W.Frag} {mg : Str → Option Value} {base : Heap}
abbrev N_law_is : List Str := ["found", "due"]
theorem sc_law_is : FnScope N_law_is ["found", "due"] (defScope s_law_is) := ⟨rfl, rfl, rfl, by decide +kernel, rfl, by decide +kernel, by decide +kernel⟩
theorem hb_law_is : HB s_law_is "_law_is" "_law_is" ["found", "due"] := fun _ _ _ _ _ _ us hl => match us, hl with | [_, _], _ => rfl

def IsIN (x : V) : Prop := (∃ z : Int, x = .int z) ∨ x = .non
def spLIs : Sp := fun vs H Q _ => ∃ x y : V, vs = [x, y] ∧ IsIN x ∧ IsIN y ∧ Q (.bl (decide (x = y))) H
theorem kb_ii : kitB "int" "int" = some true := by decide +kernel
theorem kb_ib : kitB "int" "bool" = some false := by decide +kernel
theorem kb_ni : kitB "NoneType" "int" = some false := by decide +kernel
theorem g_law_is {f : Addr} (T : Bt mg) (D : Df K "_law_is" "_law_is" s_law_is f) (m : mg "_law_is" = some (.ref f)) : Fn P w K mg base CXN 1 "_law_is" ["found", "due"] spLIs := by
  refine D.fn m sc_law_is hb_law_is (fun vs H Q E ⟨x, y, e, _⟩ => by rw [e]; rfl) fun cdv A outer s H vs Q E hr ⟨x, y, e, hx, hy, k_⟩ => ?_
  subst e
  refine ⟨_, (pss_cons (ps_if (pt_cmp (pc_isN (pv 1)) rfl) (pss_one (ps_ret (pe_cmp (pc_isN (pv 0)) rfl))) pss_nil)
    (pss_one (ps_ret (pe_and (pe_callB call_isi (by rfl) T.isinstance (by decide +kernel) (pa_cons (pv 0) (pa_cons (pe_bltn (v := .ty "int") (u := .type "int") rfl T.int (by decide +kernel) rfl) pa_nil))) (pe_and (pe_not (pe_callB call_isi (by rfl) T.isinstance (by decide +kernel) (pa_cons (pv 0) (pa_cons (pe_bltn (v := .ty "bool") (u := .type "bool") rfl T.bool (by decide +kernel) rfl) pa_nil)))) (pe_one (pe_cmpR (op_eq) (pv 0) (pv 1) (nomark _)))))))), ?_⟩
  rcases hy with ⟨d, rfl⟩ | rfl
  · refine ⟨_, rfl, _, rfl, iteF ?_⟩
    rcases hx with ⟨z, rfl⟩ | rfl
    · refine ⟨_, rfl, _, .ty "int", .type "int", .type "int", true, rfl, ClsV.ty _, .base (.int _), kit_ty kb_ii, true, rfl, iteT ?_⟩
      refine ⟨_, rfl, _, .ty "bool", .type "int", .type "bool", false, rfl, ClsV.ty _, .base (.int _), kit_ty kb_ib, _, rfl, true, rfl, iteT ?_⟩
      exact ⟨_, rfl, _, rfl, rfl, k_⟩
    · exact ⟨_, rfl, _, .ty "int", .type "NoneType", .type "int", false, rfl, ClsV.ty _, .base .non, kit_ty kb_ni, false, rfl, iteF k_⟩
  · exact ⟨_, rfl, _, rfl, iteT ⟨_, rfl, k_⟩⟩
end
end Bz
end
section
set_option Elab.async false
set_option linter.all false
set_option maxRecDepth 100000
set_option maxHeartbeats 4000000
namespace Bz
open PySem PySem.Spec PyProof.Rows L2 LamX NdefX
section
variable {P : Program} {w : World} {K : PySem.W.Frag} {mg : Str → Option Value} {base : Heap}
abbrev N_law_great : List Str := ["bag", "limit", "far", "way"]
theorem sc_law_great : FnScope N_law_great ["bag", "limit"] (defScope s_law_great) := ⟨rfl, rfl, rfl, by decide +kernel, rfl, by decide +kernel, by decide +kernel⟩
theorem hb_law_great : HB s_law_great "_law_great" "_law_great" ["bag", "limit"] := fun _ _ _ _ _ _ us hl => match us, hl with | [_, _], _ => rfl

def spGreat : Sp := fun vs H Q _ => ∃ (a : Addr) (l n : Nat), vs = [.ref a, .int l] ∧ BagAt H a (n + 3) ∧ 3 ≤ l ∧ l < 2 ^ 1000 ∧ ∀ (r : Nat) H', 1 ≤ r → r ≤ l → Kz a H H' → BagAt H' a n → Q (.int r) H'
theorem g_law_great {f : Addr} (T : Bt mg) (D : Df K "_law_great" "_law_great" s_law_great f) (m : mg "_law_great" = some (.ref f)) (G1 : Fn P w K mg base CXN 1 "_law_draw" ["bag", "many"] spDraw) : Fn P w K mg base CXN 2 "_law_great" ["bag", "limit"] spGreat := by
  refine D.fn m sc_law_great hb_law_great (fun vs H Q E ⟨a, l, n, e, _⟩ => by rw [e]; rfl) fun cdv A outer s H vs Q E hr ⟨a, l, n, e, hb, h1, h2, k_⟩ => ?_
  subst e
  refine ⟨_, (pss_cons (ps_set (i := 2) sc_law_great.nd rfl (Or.inl rfl) (pe_op op_add (pe_op op_mulW (pe_fn G1 hr (by rfl) pass0 (pa_cons (pv 0) (pa_cons (pe_op op_powW pe_int pe_int) pa_nil))) (pe_op op_powW pe_int pe_int)) (pe_fn G1 hr (by rfl) pass0 (pa_cons (pv 0) (pa_cons (pe_op op_powW pe_int pe_int) pa_nil)))))
    (pss_cons (ps_set (i := 3) sc_law_great.nd rfl (Or.inl rfl) (pe_fn G1 hr (by rfl) pass0 (pa_cons (pv 0) (pa_cons pe_int pa_nil))))
    (pss_cons (ps_if (pt_cmpR (op_eq) (pv 3) pe_int (nomark _)) (pss_one (ps_ret (pe_op op_add pe_int (pe_op op_modN (pe_callTy call_int1 (by rfl) T.int (by decide +kernel) (pa_cons (pv 2) pa_nil)) (pe_callB (call_min2 rfl) (by rfl) T.min (by decide +kernel) (pa_cons (pv 1) (pa_cons pe_int pa_nil))))))) pss_nil)
    (pss_cons (ps_if (pt_cmpR (op_eq) (pv 3) pe_int (nomark _)) (pss_one (ps_ret (pe_op op_add pe_int (pe_op op_modN (pe_callTy call_int1 (by rfl) T.int (by decide +kernel) (pa_cons (pv 2) pa_nil)) (pe_callB (call_min2 rfl) (by rfl) T.min (by decide +kernel) (pa_cons (pv 1) (pa_cons (pe_op op_powW pe_int pe_int) pa_nil))))))) pss_nil)
    (pss_cons (ps_if (pt_cmpR (op_eq) (pv 3) pe_int (nomark _)) (pss_one (ps_ret (pe_op op_sub (pv 1) (pe_op op_modN (pe_callTy call_int1 (by rfl) T.int (by decide +kernel) (pa_cons (pv 2) pa_nil)) (pe_callB (call_min2 rfl) (by rfl) T.min (by decide +kernel) (pa_cons (pv 1) (pa_cons pe_int pa_nil))))))) pss_nil)
    (pss_one (ps_ret (pe_op op_add pe_int (pe_op op_modN (pe_callTy call_int1 (by rfl) T.int (by decide +kernel) (pa_cons (pv 2) pa_nil)) (pv 1)))))))))), ?_⟩
  have p20 : (10 : Int) ^ (20 : Int).toNat = ((100000000000000000000 : Nat) : Int) := by decide +kernel
  have b20 : (100000000000000000000 : Nat) < 2 ^ 1000 := by decide +kernel
  refine ⟨_, rfl, _, _, rfl, rfl, powW_ok (k := 10) (n := 20) (by decide) (by decide), a, 100000000000000000000, n + 2, congrArg (fun z => [V.ref a, V.int z]) p20, hb, by decide, b20, fun r1 H1 hr1 kz1 bg1 => ?_⟩
  refine ⟨_, _, rfl, rfl, powW_ok (k := 10) (n := 20) (by decide) (by decide), _, _, rfl, rfl, wide_mul (a := 80) (b := 80) (by simp; omega) (by decide) (by decide) (by decide) (by decide), ?_⟩
  refine ⟨_, rfl, _, _, rfl, rfl, powW_ok (k := 10) (n := 20) (by decide) (by decide), a, 100000000000000000000, n + 1, congrArg (fun z => [V.ref a, V.int z]) p20, bg1, by decide, b20, fun r2 H2 hr2 kz2 bg2 => ?_⟩
  refine ⟨_, _, rfl, rfl, ?_⟩
  dsimp only
  generalize hfr : (r1 : Int) * (10 : Int) ^ (20 : Int).toNat + (r2 : Int) = fr
  refine ⟨_, rfl, a, 5, n, rfl, bg2, by decide, by decide +kernel, fun r3 H3 hr3 kz3 bg3 => ?_⟩
  have kz := kz1.trans (kz2.trans kz3)
  have fin : ∀ d : Int, 0 < d → d ≤ (l : Int) → Q (.int (1 + fr.fmod d)) H3 := fun d d0 d1 => by
    obtain ⟨v, e, hv⟩ := fmN fr d d0
    rw [e, show (1 : Int) + (v : Int) = ((1 + v : Nat) : Int) by omega]
    exact k_ _ _ (by omega) (by omega) kz bg3
  refine ⟨_, rfl, rfl, _, rfl, ?_⟩
  refine ifb (fun _ => ?_) (fun _ => ?_)
  · refine ⟨_, rfl, .inl ⟨_, rfl, _, rfl, _, _, rfl, _, _, rfl, rfl, ?_, _, _, rfl, rfl, fin _ ?_ ?_⟩⟩
    all_goals (split <;> omega)
  refine ⟨_, rfl, rfl, _, rfl, ?_⟩
  refine ifb (fun _ => ?_) (fun _ => ?_)
  · have p9 : (10 : Int) ^ (9 : Int).toNat = 1000000000 := by decide +kernel
    refine ⟨_, rfl, .inl ⟨_, rfl, _, rfl, _, _, rfl, rfl, powW_ok (k := 10) (n := 9) (by decide) (by decide), _, _, rfl, _, _, rfl, rfl, ?_, _, _, rfl, rfl, fin _ ?_ ?_⟩⟩
    all_goals (try dsimp only); all_goals (rw [p9]; split <;> omega)
  refine ⟨_, rfl, rfl, _, rfl, ?_⟩
  refine ifb (fun _ => ?_) (fun _ => ?_)
  · obtain ⟨v, e, hv⟩ := fmN fr (if (3 : Int) < (l : Int) then 3 else (l : Int)) (by split <;> omega)
    have hv3 : (v : Int) < 3 := by
      split at hv <;> omega
    refine ⟨_, rfl, _, rfl, .inl ⟨_, rfl, _, rfl, _, _, rfl, _, _, rfl, rfl, ?_, _, _, rfl, rfl, ?_⟩⟩
    · split <;> omega
    · dsimp only
      rw [e, show (l : Int) - (v : Int) = ((l - v : Nat) : Int) by omega]
      exact k_ _ _ (by omega) (by omega) kz bg3
  · exact ⟨_, rfl, .inl ⟨_, rfl, _, rfl, _, _, rfl, rfl, by omega, _, _, rfl, rfl, fin _ (by omega) (by omega)⟩⟩
end
end Bz
end
section
set_option maxHeartbeats 400000
set_option autoImplicit false
set_option linter.unusedVariables false
namespace Bz
/-! ### the least number of a state -/
section
variable {b m : Nat} {g : Row2}
structure LstN (g : Row2) (b s n : Nat) : Prop where
  run : Bz.run g b n = s
  zero : s = 0 → n = 0
  pos : 0 < s → 0 < n
  min : ∀ k, 0 < k → Bz.run g b k = s → n ≤ k
theorem lst_zero : LstN g b 0 0 := ⟨run_zero g b, fun _ => rfl, fun h => h, fun k _ _ => Nat.zero_le _⟩
theorem least_ex {p : Nat → Prop} : ∀ n, p n → ∃ k, p k ∧ ∀ j, p j → k ≤ j := by
  intro n
  induction n using Nat.strongRecOn with
  | ind n ih =>
    intro h
    by_cases q : ∃ j, j < n ∧ p j
    · obtain ⟨j, h1, h2⟩ := q
      exact ih j h1 h2
    · exact ⟨n, h, fun j hj => Nat.le_of_not_lt fun z => q ⟨j, z, hj⟩⟩
theorem lst_ex (M : Met b m g) {s : Nat} (h : s ≤ m) : ∃ n, LstN g b s n := by
  by_cases h0 : s = 0
  · exact ⟨0, by rw [h0]; exact lst_zero⟩
  · obtain ⟨n, h1, h2⟩ := M.reach s (by omega) h
    obtain ⟨k, ⟨k1, k2⟩, k3⟩ := least_ex (p := fun k => 0 < k ∧ run g b k = s) n ⟨h1, h2⟩
    exact ⟨k, k2, fun z => absurd z h0, fun _ => k1, fun j j1 j2 => k3 j ⟨j1, j2⟩⟩
theorem lst_mono (M : Met b m g) {s t n k : Nat} (hs : LstN g b s n) (ht : LstN g b t k) (h : s < t) : n < k := by
  have hk := ht.pos (by omega)
  by_cases h0 : s = 0
  · rw [hs.zero h0]; exact hk
  · obtain ⟨j, j1, j2, j3⟩ := M.met k hk s (by omega) (by rw [ht.run]; exact h)
    exact Nat.lt_of_le_of_lt (hs.min j j1 j3) j2
theorem lst_step (hb : 2 ≤ b) (M : Met b m g) {t e f q : Nat} (ht : 0 < t) (hf : f < b) (he : e ≤ m) (h0 : 0 < e ∨ 0 < f) (hn : nxt g e f = t)
    (first : ∀ e' f', e' ≤ m → f' < b → (0 < e' ∨ 0 < f') → nxt g e' f' = t → e < e' ∨ (e = e' ∧ f ≤ f')) (hq : LstN g b e q) : LstN g b t (q * b + f) ∧ e < t := by
  have hp : 0 < q ∨ 0 < f := by
    rcases h0 with h | h
    · exact .inl (hq.pos h)
    · exact .inr h
  have key : LstN g b t (q * b + f) := by
    refine ⟨by rw [run_snoc hb hf hp, hq.run, hn], fun z => by omega, fun _ => ?_, fun k hk hr => ?_⟩
    · rcases hp with h | h
      · have : 0 < q * b := Nat.mul_pos h (by omega)
        omega
      · omega
    · obtain ⟨k1, k2, k3, k4⟩ := split_num hb hk
      have hr2 : nxt g (run g b (k / b)) (k % b) = t := by
        rw [← run_snoc hb k2 k3, ← k1]; exact hr
      have hle : run g b (k / b) ≤ m := by
        by_cases h : 0 < k / b
        · exact (M.wf.run hb _ h).2
        · rw [Nat.eq_zero_of_not_pos h, run_zero]; exact Nat.zero_le _
      have h3 : 0 < run g b (k / b) ∨ 0 < k % b := by
        rcases k3 with h | h
        · exact .inl (M.wf.run hb _ h).1
        · exact .inr h
      have pos : 0 < run g b (k / b) → 0 < k / b := fun h => by
        apply Classical.byContradiction
        intro z
        rw [Nat.eq_zero_of_not_pos z, run_zero] at h
        omega
      rcases first _ _ hle k2 h3 hr2 with h | ⟨h, h'⟩
      · obtain ⟨n', hn'⟩ := lst_ex M hle
        have a1 := lst_mono M hq hn' h
        have a2 := hn'.min (k / b) (pos (by omega)) rfl
        have : (q + 1) * b ≤ k / b * b := Nat.mul_le_mul_right _ (by omega)
        rw [Nat.succ_mul] at this
        omega
      · by_cases h0 : e = 0
        · rw [hq.zero h0, Nat.zero_mul]; omega
        · have := hq.min (k / b) (pos (by omega)) h.symm
          have := Nat.mul_le_mul_right b this
          omega
  refine ⟨key, ?_⟩
  apply Classical.byContradiction
  intro hle
  have q0 : 0 < q := hq.pos (by omega)
  have big : q < q * b + f := by
    have : q * 2 ≤ q * b := Nat.mul_le_mul_left _ hb
    omega
  by_cases h1 : t = e
  · have := key.min q q0 (by rw [hq.run, h1])
    omega
  · have := lst_mono M key hq (by omega)
    omega
/-- by least states -/
theorem least_told {mk F : Nat → Bool} (hb : 2 ≤ b) (C : Canon b m g mk F) {s n : Nat} (h1 : 1 ≤ s) (h2 : s ≤ m) (hm : mk s = true) (hl : ∀ t, 1 ≤ t → t < s → mk t = false) (hn : LstN g b s n) : 0 < n ∧ F n = true ∧ ∀ k, 0 < k → F k = true → n ≤ k := by
  have n0 := hn.pos (by omega)
  refine ⟨n0, by rw [← C.tells n n0, hn.run]; exact hm, fun k hk hF => ?_⟩
  rw [← C.tells k hk] at hF
  obtain ⟨a1, a2⟩ := C.met.wf.run hb k hk
  rcases Nat.lt_trichotomy (run g b k) s with h | h | h
  · rw [hl _ a1 h] at hF; cases hF
  · exact hn.min k hk h
  · obtain ⟨n', hn'⟩ := lst_ex C.met a2
    have := lst_mono C.met hn hn' h
    have := hn'.min k hk rfl
    omega
theorem least_none {mk F : Nat → Bool} (hb : 2 ≤ b) (C : Canon b m g mk F) (hl : ∀ t, 1 ≤ t → t ≤ m → mk t = false) : ∀ k, 0 < k → F k = false := fun k hk => by
  obtain ⟨a1, a2⟩ := C.met.wf.run hb k hk
  rw [← C.tells k hk]; exact hl _ a1 a2
end
/-! ### whether a stretch has one -/
theorem cw_pos {F : Nat → Bool} {lo : Nat} : ∀ {k : Nat}, 0 < cw F lo k ↔ ∃ i, i < k ∧ F (lo + i) = true := by
  intro k
  induction k with
  | zero => exact ⟨fun h => absurd h (by unfold cw; omega), fun ⟨i, h, _⟩ => absurd h (by omega)⟩
  | succ k ih =>
    show 0 < cw F lo k + (if F (lo + k) = true then 1 else 0) ↔ _
    by_cases h : F (lo + k) = true
    · rw [if_pos h]
      exact ⟨fun _ => ⟨k, by omega, h⟩, fun _ => by omega⟩
    · rw [if_neg h, Nat.add_zero, ih]
      exact ⟨fun ⟨i, a, c⟩ => ⟨i, by omega, c⟩, fun ⟨i, a, c⟩ => ⟨i, by
        by_cases e : i = k
        · rw [e] at c; exact absurd c h
        · omega, c⟩⟩
theorem foldl_any (F : Nat → Bool) (lo w : Nat) (c : Nat → Bool) : ∀ k, (∀ f, f ≤ k → c f = decide (0 < cw F (lo + f * w) w)) → (List.range k).foldl (fun acc f => acc || c (f + 1)) (c 0) = decide (0 < cw F lo ((k + 1) * w)) := by
  intro k
  induction k with
  | zero => intro h; simp [h 0 (Nat.le_refl _)]
  | succ k ih =>
    intro h
    rw [List.range_succ, List.foldl_append, ih fun f hf => h f (by omega)]
    show (decide (0 < cw F lo ((k + 1) * w)) || c (k + 1)) = _
    rw [h (k + 1) (Nat.le_refl _), show (k + 1 + 1) * w = (k + 1) * w + w by rw [Nat.succ_mul], cw_add]
    by_cases h1 : 0 < cw F lo ((k + 1) * w)
    · rw [decide_eq_true h1, decide_eq_true (show 0 < cw F lo ((k + 1) * w) + cw F (lo + (k + 1) * w) w by omega)]; rfl
    · rw [decide_eq_false h1, Bool.false_or, Nat.eq_zero_of_not_pos h1, Nat.zero_add]
theorem lev_any {b : Nat} (hb : 2 ≤ b) {g : Row2} {mk F : Nat → Bool} (ht : ∀ n, 0 < n → mk (run g b n) = F n) : ∀ (l n : Nat), 0 < n → lev g b mk (fun x y => x || y) l (run g b n) = decide (0 < cw F (n * b ^ l) (b ^ l)) := by
  intro l
  induction l with
  | zero =>
    intro n hn
    show mk (run g b n) = _
    rw [ht n hn, Nat.pow_zero, Nat.mul_one]
    unfold cw cw
    cases F (n + 0) <;> simp_all
  | succ l ih =>
    intro n hn
    unfold lev
    have := foldl_any F (n * b ^ (l + 1)) (b ^ l) (fun f => lev g b mk (fun x y => x || y) l (nxt g (run g b n) f)) (b - 1) fun f hf => by
      have hp : 0 < n * b := Nat.mul_pos hn (by omega)
      rw [← run_snoc hb (by omega) (.inl hn), ih (n * b + f) (by omega)]
      rw [Nat.add_mul, Nat.pow_succ, Nat.mul_comm (b ^ l) b, ← Nat.mul_assoc]
    rw [this, Nat.sub_add_cancel (by omega), Nat.pow_succ, Nat.mul_comm b (b ^ l)]
/-- the first of stretches side by side that has one -/
theorem Tile.first {g : Row2} {b : Nat} (hb : 2 ≤ b) {F : Nat → Bool} {p : Nat × Nat × Nat → Bool} (hp : ∀ t q, 0 < q → t.2.1 = run g b q → p t = decide (0 < cw F (q * b ^ t.1) (b ^ t.1))) : ∀ {ts : List (Nat × Nat × Nat)} {lo hi : Nat}, Tile g b lo ts hi →
    (ts.filter p = [] ∧ ∀ y, lo ≤ y → y < hi → F y = false) ∨ ∃ t r q, ts.filter p = t :: r ∧ t ∈ ts ∧ 0 < q ∧ t.2.2 = q * b ^ t.1 ∧ t.2.1 = run g b q ∧ 0 < cw F t.2.2 (b ^ t.1) ∧ lo ≤ t.2.2 ∧ t.2.2 + b ^ t.1 ≤ hi ∧ ∀ y, lo ≤ y → y < t.2.2 → F y = false := by
  intro ts
  induction ts with
  | nil => intro lo hi h; have h : lo = hi := h; subst h; exact .inl ⟨rfl, fun y a c => by omega⟩
  | cons t r ih =>
    intro lo hi h
    obtain ⟨h1, ⟨q, hq, e, e2⟩, h3⟩ := h
    have hpt := hp t q hq e2
    rw [← e] at hpt
    by_cases hc : 0 < cw F lo (b ^ t.1)
    · rw [decide_eq_true hc] at hpt
      exact .inr ⟨t, r.filter p, q, List.filter_cons_of_pos hpt, List.mem_cons_self, hq, by rw [h1]; exact e, e2, by rw [h1]; exact hc, by rw [h1]; exact Nat.le_refl _, by rw [h1]; exact h3.le, fun y a c => by omega⟩
    · rw [decide_eq_false hc] at hpt
      have no : ∀ y, lo ≤ y → y < lo + b ^ t.1 → F y = false := fun y a c => by
        cases hF : F y with
        | false => rfl
        | true => exact absurd (cw_pos.mpr ⟨y - lo, by omega, by rw [Nat.add_sub_cancel' a]; exact hF⟩) hc
      have hf : (t :: r).filter p = r.filter p := List.filter_cons_of_neg (by rw [hpt]; decide)
      rcases ih h3 with ⟨a, c⟩ | ⟨t', r', q', a1, a2, a3, a4, a5, a6, a7, a8, a9⟩
      · refine .inl ⟨by rw [hf]; exact a, fun y y1 y2 => ?_⟩
        by_cases hy : y < lo + b ^ t.1
        · exact no y y1 hy
        · exact c y (by omega) y2
      · refine .inr ⟨t', r', q', by rw [hf]; exact a1, List.mem_cons_of_mem _ a2, a3, a4, a5, a6, Nat.le_trans (Nat.le_add_right _ _) a7, a8, fun y y1 y2 => ?_⟩
        by_cases hy : y < lo + b ^ t.1
        · exact no y y1 hy
        · exact a9 y (by omega) y2
/-! ### a ring of states -/
theorem pigeon {m : Nat} (f : Nat → Nat) (h : ∀ i, i ≤ m → 1 ≤ f i ∧ f i ≤ m) : ∃ i j, i < j ∧ j ≤ m ∧ f i = f j := by
  apply Classical.byContradiction
  intro hn
  have inj : ∀ i j, i < j → j ≤ m → f i ≠ f j := fun i j a c e => hn ⟨i, j, a, c, e⟩
  have nd : ((List.range (m + 1)).map f).Nodup := by
    unfold List.Nodup
    rw [List.pairwise_map]
    refine List.Pairwise.imp_of_mem ?_ (List.pairwise_lt_range (n := m + 1))
    intro i j hi hj hlt
    have hj := List.mem_range.mp hj
    exact inj i j hlt (by omega)
  have := nodup_le (u := (List.range m).map (· + 1)) nd fun x hx => by
    obtain ⟨i, hi, rfl⟩ := List.mem_map.mp hx
    have hi := List.mem_range.mp hi
    obtain ⟨a, c⟩ := h i (by omega)
    exact List.mem_map.mpr ⟨f i - 1, List.mem_range.mpr (by omega), by omega⟩
  simp at this
  omega
theorem run_tail {g : Row2} {b : Nat} (hb : 2 ≤ b) {p p' : Nat} (hp : 0 < p) (hp' : 0 < p') (e : run g b p = run g b p') : ∀ k r, r < b ^ k → run g b (p * b ^ k + r) = run g b (p' * b ^ k + r) := by
  intro k
  induction k with
  | zero => intro r hr; rw [Nat.pow_zero] at hr; have : r = 0 := by omega
            subst this; rw [Nat.pow_zero]; simpa using e
  | succ k ih =>
    intro r hr
    have hm := Nat.mod_lt r (show 0 < b by omega)
    have hd : r / b < b ^ k := by rw [Nat.div_lt_iff_lt_mul (by omega)]; rw [Nat.pow_succ] at hr; exact hr
    have key : ∀ x, 0 < x → run g b (x * b ^ (k + 1) + r) = nxt g (run g b (x * b ^ k + r / b)) (r % b) := fun x hx => by
      have h0 : 0 < x * b ^ k := Nat.mul_pos hx (Nat.pow_pos (by omega))
      rw [← run_snoc hb hm (.inl (Nat.add_pos_left h0 _))]
      congr 1
      rw [Nat.add_mul, Nat.pow_succ, Nat.mul_assoc, Nat.add_assoc]
      congr 1
      rw [Nat.mul_comm]
      exact (Nat.div_add_mod r b).symm
    rw [key p hp, key p' hp', ih _ hd]
theorem pump {b m : Nat} {g : Row2} {mk F : Nat → Bool} (hb : 2 ≤ b) (C : Canon b m g mk F) {n L : Nat} (hL : n < b ^ L) (h : ∃ y, n < y ∧ F y = true) : ∃ y, n < y ∧ y < b ^ (L + m) ∧ F y = true := by
  obtain ⟨y0, hy0⟩ := h
  obtain ⟨y, ⟨y1, y2⟩, ymin⟩ := least_ex (p := fun y => n < y ∧ F y = true) y0 hy0
  refine ⟨y, y1, ?_, y2⟩
  apply Classical.byContradiction
  intro hbig
  have hbig : b ^ (L + m) ≤ y := by omega
  have pp : ∀ i, i ≤ m → b ^ L ≤ y / b ^ (m - i) := fun i hi => by
    rw [Nat.le_div_iff_mul_le (Nat.pow_pos (by omega)), ← Nat.pow_add]
    exact Nat.le_trans (Nat.pow_le_pow_right (by omega) (by omega)) hbig
  have p0 : ∀ i, i ≤ m → 0 < y / b ^ (m - i) := fun i hi => Nat.lt_of_lt_of_le (Nat.pow_pos (by omega)) (pp i hi)
  obtain ⟨i, j, hij, hj, e⟩ := pigeon (fun i => run g b (y / b ^ (m - i))) fun i hi => C.met.wf.run hb _ (p0 i hi)
  have hy : y = y / b ^ (m - j) * b ^ (m - j) + y % b ^ (m - j) := by rw [Nat.mul_comm]; exact (Nat.div_add_mod _ _).symm
  have hmod : y % b ^ (m - j) < b ^ (m - j) := Nat.mod_lt _ (Nat.pow_pos (by omega))
  have hlt : y / b ^ (m - i) < y / b ^ (m - j) := by
    have e2 : b ^ (m - i) = b ^ (m - j) * b ^ (j - i) := by rw [← Nat.pow_add]; congr 1; omega
    rw [e2, ← Nat.div_div_eq_div_mul]
    refine Nat.div_lt_self (p0 j hj) ?_
    calc 1 < b := by omega
      _ = b ^ 1 := (Nat.pow_one b).symm
      _ ≤ b ^ (j - i) := Nat.pow_le_pow_right (by omega) (by omega)
  have hr := run_tail (g := g) hb (p0 i (by omega)) (p0 j hj) e (m - j) _ hmod
  rw [← hy] at hr
  obtain ⟨z, hz⟩ : ∃ z, z = y / b ^ (m - i) * b ^ (m - j) + y % b ^ (m - j) := ⟨_, rfl⟩
  rw [← hz] at hr
  have zlt : z < y := by
    have := Nat.mul_lt_mul_of_pos_right hlt (show 0 < b ^ (m - j) from Nat.pow_pos (by omega))
    rw [hz]
    exact Nat.lt_of_lt_of_eq (Nat.add_lt_add_right this _) hy.symm
  have zge : b ^ L ≤ z := by
    have h1 := pp i (by omega)
    have h2 : y / b ^ (m - i) * 1 ≤ y / b ^ (m - i) * b ^ (m - j) := Nat.mul_le_mul_left _ (Nat.pow_pos (by omega))
    rw [Nat.mul_one] at h2
    rw [hz]
    exact Nat.le_trans h1 (Nat.le_trans h2 (Nat.le_add_right _ _))
  have hFz : F z = true := by
    have hz0 : 0 < z := by omega
    have hy0 : 0 < y := by omega
    rw [← C.tells z hz0, hr, C.tells y hy0]; exact y2
  have := ymin z ⟨by omega, hFz⟩
  omega
end Bz
end
section
set_option Elab.async false
set_option linter.all false
set_option maxRecDepth 100000
set_option maxHeartbeats 4000000
namespace Bz
open PySem PySem.Spec PyProof.Rows L2 LamX NdefX
/-- goals[state][figure] -/
theorem goals_at {H : Hp} {g : Rows} {b m : Nat} {as : List Addr} (wf : Wf b m g) (hr3 : ∀ (i : Nat) (r : List (Option Nat)), g[i]? = some r → ∃ q, as[i]? = some q ∧ H q = some (.lst (r.map oV))) (s fg : Nat) (h1 : s ≤ m) (h2 : fg < b) (h3 : 0 < s ∨ 0 < fg) :
    ∃ (q : Addr) (r : List (Option Nat)), (as.map V.ref)[s]? = some (.ref q) ∧ H q = some (.lst (r.map oV)) ∧ (r.map oV)[fg]? = some (.int (nxt g s fg : Nat)) := by
  obtain ⟨t, et, _⟩ := wf.ent s fg h1 h2 h3
  obtain ⟨r, er, ef⟩ := rows_get et
  obtain ⟨q, hq, hq1⟩ := hr3 s r er
  refine ⟨q, r, by rw [List.getElem?_map, hq] <;> rfl, hq1, ?_⟩
  rw [List.getElem?_map, ef]
  unfold nxt
  rw [et] <;> rfl
theorem run_le {g : Rows} {b m : Nat} (hb : 2 ≤ b) (wf : Wf b m g) (q : Nat) : run g b q ≤ m := by
  by_cases h : 0 < q
  · exact (wf.run hb q h).2
  · have h0 : q = 0 := by omega
    rw [h0, run_zero]; exact Nat.zero_le _
section
variable {P : Program} {w : World} {K : PySem.W.Frag} {mg : Str → Option Value} {base : Heap}
abbrev N_states_upto : List Str := ["grid", "figures", "found", "figure"]
theorem sc_states_upto : FnScope N_states_upto ["grid", "figures"] (defScope s_states_upto) := ⟨rfl, rfl, rfl, by decide +kernel, rfl, by decide +kernel, by decide +kernel⟩
theorem hb_states_upto : HB s_states_upto "states_upto" "states_upto" ["grid", "figures"] := fun _ _ _ _ _ _ us hl => match us, hl with | [_, _], _ => rfl

def stsOf (g : Rows) (b n i : Nat) : List Nat := (List.range i).map fun k => run g b (qAt b n k)
def spSts (C : Addr) : Sp := fun vs H Q _ => ∃ (a l : Addr) (b m n : Nat) (g : Rows) (ms : List V), vs = [.ref a, .ref l] ∧ GridAt C H a b g ms ∧ H l = some (.lst (nV (figs b n))) ∧ 2 ≤ b ∧ Wf b m g ∧ 0 < n ∧ n < 2 ^ 3000 ∧
  ∀ p H', H p = none → Sm H H' → H' p = some (.lst (nV (stsOf g b n ((figs b n).length + 1)))) → Q (.ref p) H'
theorem g_states_upto {f C : Addr} (c : GrC K C) (D : Df K "states_upto" "states_upto" s_states_upto f) (m : mg "states_upto" = some (.ref f)) : Fn P w K mg base CXN 1 "states_upto" ["grid", "figures"] (spSts C) := by
  refine D.fn m sc_states_upto hb_states_upto (fun vs H Q E ⟨a, l, b, m, n, g, ms, e, _⟩ => by rw [e]; rfl) fun cdv A outer s0 H vs Q E hr ⟨a, l, b, m, n, g, ms, e, hg, hl, hb, wf, hn, hn2, k_⟩ => ?_
  subst e
  refine ⟨_, (pss_cons (ps_set (i := 2) sc_states_upto.nd rfl (Or.inl rfl) (pe_lst (pa_cons pe_int pa_nil)))
    (pss_cons (ps_for PassesOwn.never rfl (pi_listK (K := K) rfl (pv 1)) (pg_name (i := 3) sc_states_upto.nd rfl (Or.inl rfl)) (pss_one (ps_expr (pe_bm PySem.F.plainAttrs_list PySem.F.slot_list_append PySem.F.type_list_append mt_append (pv 2) (pa_cons (pe_ix (ix_listK (K := K) rfl) (pe_ix (ix_listK (K := K) rfl) (pe_fldK (K := K) rfl (pv 0) rfl) (pe_ix (ix_listK (K := K) rfl) (pv 2) (pe_un un_neg pe_int) (fun _ _ => rfl)) (fun _ _ => rfl)) (pv 3) (fun _ _ => rfl)) pa_nil)))))
    (pss_one (ps_ret (pv 2))))), ?_⟩
  obtain ⟨dx, pg, pm, ha, ⟨as, hr1, hr2, hr3⟩, hm⟩ := id hg
  have hL3 := figs_len_le hb hn2
  refine ⟨by show 1 ≤ sizeLine; decide, fun fd hfd => ?_⟩
  refine ⟨_, rfl, l, rfl, ⟨_, SqL.of (upd_get hl hfd)⟩, for_list (K := K) (a := l) (xs := nV (figs b n)) (fun i σ H' => ∃ o, σ = [some (.ref a), some (.ref l), some (.ref fd), o] ∧ Sm H H' ∧ H' fd = some (.lst (nV (stsOf g b n (i + 1)))))
    ⟨none, rfl, Sm.new hfd, by rw [upd_same]; show some (HO.lst [V.int 0]) = some (.lst [V.int ((run g b (qAt b n 0) : Nat) : Int)]); rw [qAt_zero hb, run_zero]; rfl⟩ (fun i σ H' _ ⟨_, _, e, _⟩ => SqL.of (e.at_ _ _ hl)) ?_ ?_⟩
  · rintro i v σ H1 hi ⟨o, rfl, e1, hf1⟩
    obtain ⟨fg, hfg, rfl⟩ : ∃ fg : Nat, (figs b n)[i]? = some fg ∧ v = .int fg := by
      unfold nV at hi
      rw [List.getElem?_map] at hi
      cases e : (figs b n)[i]? with
      | none => rw [e] at hi; cases hi
      | some k => rw [e] at hi; exact ⟨k, rfl, (Option.some.inj hi).symm⟩
    have hil := (List.getElem?_eq_some_iff.mp hfg).1
    obtain ⟨q1, q2⟩ := qAt_succ hb hfg
    have hpos : 0 < qAt b n i ∨ 0 < fg := by
      by_cases h : i = 0
      · rw [h] at hfg; exact .inr (qAt_first hb hn hfg)
      · exact .inl (qAt_pos hb hn (by omega))
    have hpos2 : 0 < run g b (qAt b n i) ∨ 0 < fg := by
      rcases hpos with h | h
      · exact .inl (wf.run hb _ h).1
      · exact .inr h
    obtain ⟨q, r, g1, g2, g3⟩ := goals_at wf hr3 (run g b (qAt b n i)) fg (run_le hb wf _) q2 hpos2
    have hlast : atI (nV (stsOf g b n (i + 1))) (-1) = some (.int (run g b (qAt b n i) : Nat)) := by
      unfold stsOf nV
      rw [List.range_succ, List.map_append, List.map_append]
      exact atI_last _ _
    refine ⟨_, rfl, .inl ⟨rfl, _, SqL.of hf1⟩, ?_⟩
    refine ⟨_, rfl, a, C, dx, _, _, rfl, e1.at_ _ _ ha, c.cl, c.nG, gr_G b pg pm, ?_⟩
    refine ⟨_, rfl, _, rfl, fd, _, _, _, rfl, rfl, SqL.of hf1, hlast, ?_⟩
    refine ⟨pg, _, _, .ref q, rfl, rfl, SqL.of (e1.at_ _ _ hr1), atI_nat g1, _, rfl, q, _, _, .int (nxt g (run g b (qAt b n i)) fg : Nat), rfl, rfl, SqL.of (e1.at_ _ _ g2), atI_nat g3, ?_⟩
    refine ⟨fd, _, _, rfl, rfl, hf1, by unfold stsOf nV; rw [List.length_map, List.length_map, List.length_range]; exact sz_lt (by omega), _, rfl, e1.mut hfd, ?_⟩
    rw [upd_same, ← run_snoc hb q2 hpos, ← q1]
    show _ = some (HO.lst (nV (stsOf g b n (i + 1 + 1))))
    unfold stsOf nV
    rw [List.range_succ (n := i + 1), List.map_append, List.map_append]; rfl
  · rintro σ H1 ⟨o, rfl, e1, hf1⟩
    refine ⟨_, rfl, ?_⟩
    rw [show (nV (figs b n)).length = (figs b n).length from List.length_map ..] at hf1
    exact k_ fd H1 hfd e1 hf1
/-- where the stretches behind a number end, from the last figure on -/
def upAt (b n l : Nat) : Nat := (n / b ^ l + 1) * b ^ l
abbrev N_greater_stretches : List Str := ["grid", "number", "many", "base", "figures", "states", "found", "place", "level", "power", "ahead", "figure"]
theorem sc_greater_stretches : FnScope N_greater_stretches ["grid", "number", "many"] (defScope s_greater_stretches) := ⟨rfl, rfl, rfl, by decide +kernel, rfl, by decide +kernel, by decide +kernel⟩
theorem hb_greater_stretches : HB s_greater_stretches "greater_stretches" "greater_stretches" ["grid", "number", "many"] := fun _ _ _ _ _ _ us hl => match us, hl with | [_, _, _], _ => rfl

def spGre (C : Addr) : Sp := fun vs H Q _ => ∃ (a : Addr) (b m n many : Nat) (g : Rows) (ms : List V), vs = [.ref a, .int n, .int many] ∧ GridAt C H a b g ms ∧ 2 ≤ b ∧ b ≤ 16 ∧ Wf b m g ∧ 0 < n ∧ n < 2 ^ 3000 ∧ (figs b n).length ≤ many ∧ many ≤ 3500 ∧
  ∀ p xs ts H', H p = none → Sm H H' → H' p = some (.lst xs) → TrAre H' xs ts → Tile g b (n + 1) ts (b ^ many) → (∀ t ∈ ts, t.1 < many) → ts.length ≤ 16 * many → Q (.ref p) H'
theorem g_greater_stretches {f C : Addr} (T : Bt mg) (c : GrC K C) (D : Df K "greater_stretches" "greater_stretches" s_greater_stretches f) (m : mg "greater_stretches" = some (.ref f)) (G1 : Fn P w K mg base CXN 1 "figures_of" ["number", "base"] spFigures) (G2 : Fn P w K mg base CXN 1 "power_of" ["base", "times"] spPow) (G3 : Fn P w K mg base CXN 1 "states_upto" ["grid", "figures"] (spSts C)) : Fn P w K mg base CXN 2 "greater_stretches" ["grid", "number", "many"] (spGre C) := by
  refine D.fn m sc_greater_stretches hb_greater_stretches (fun vs H Q E ⟨a, b, m, n, many, g, ms, e, _⟩ => by rw [e]; rfl) fun cdv A outer s0 H vs Q E hr ⟨a, b, m, n, many, g, ms, e, hg, hb, hb2, wf, hn, hn2, hLm, hm35, k_⟩ => ?_
  subst e
  refine ⟨_, (pss_cons (ps_par (i := 3) (j := 4) (by rfl) sc_greater_stretches.nd rfl rfl (by decide) rfl rfl (pa_cons (pe_fldK (K := K) rfl (pv 0) rfl) (pa_cons (pe_fn G1 (hr.mono (by decide)) (by rfl) pass0 (pa_cons (pv 1) (pa_cons (pe_fldK (K := K) rfl (pv 0) rfl) pa_nil))) pa_nil)) (by rfl))
    (pss_cons (ps_par (i := 5) (j := 6) (by rfl) sc_greater_stretches.nd rfl rfl (by decide) rfl rfl (pa_cons (pe_fn G3 (hr.mono (by decide)) (by rfl) pass0 (pa_cons (pv 0) (pa_cons (pv 4) pa_nil))) (pa_cons (pe_lst pa_nil) pa_nil)) (by rfl))
    (pss_cons (ps_for PassesOwn.never rfl (pi_range3 rfl T.range (pa_cons (pe_op op_sub (pe_callB (call_len_seqK (K := K) rfl) (by rfl) T.len PySem.boot_len (pa_cons (pv 4) pa_nil)) pe_int) (pa_cons (pe_un un_neg pe_int) (pa_cons (pe_un un_neg pe_int) pa_nil)))) (pg_name (i := 7) sc_greater_stretches.nd rfl (Or.inl rfl)) (pss_cons (ps_set (i := 8) sc_greater_stretches.nd rfl (Or.inr rfl) (pe_op op_sub (pe_op op_sub (pe_callB (call_len_seqK (K := K) rfl) (by rfl) T.len PySem.boot_len (pa_cons (pv 4) pa_nil)) pe_int) (pv 7)))
    (pss_cons (ps_set (i := 9) sc_greater_stretches.nd rfl (Or.inr rfl) (pe_fn G2 (hr.mono (by decide)) (by rfl) pass0 (pa_cons (pv 3) (pa_cons (pv 8) pa_nil))))
    (pss_cons (ps_set (i := 10) sc_greater_stretches.nd rfl (Or.inl rfl) (pe_op op_mulW (pe_op op_fdivW (pv 1) (pe_op op_mulW (pv 9) (pv 3))) (pv 3)))
    (pss_one (ps_for PassesOwn.never rfl (pi_range2 rfl T.range (pa_cons (pe_op op_add (pe_ix (ix_listK (K := K) rfl) (pv 4) (pv 7) (fun _ _ => rfl)) pe_int) (pa_cons (pv 3) pa_nil))) (pg_name (i := 11) sc_greater_stretches.nd rfl (Or.inl rfl)) (pss_one (ps_expr (pe_bm PySem.F.plainAttrs_list PySem.F.slot_list_append PySem.F.type_list_append mt_append (pv 6) (pa_cons (pe_tup (pa_cons (pv 8) (pa_cons (pe_ix (ix_listK (K := K) rfl) (pe_ix (ix_listK (K := K) rfl) (pe_fldK (K := K) rfl (pv 0) rfl) (pe_ix (ix_listK (K := K) rfl) (pv 5) (pv 7) (fun _ _ => rfl)) (fun _ _ => rfl)) (pv 11) (fun _ _ => rfl)) (pa_cons (pe_op op_mulW (pe_op op_add (pv 10) (pv 11)) (pv 9)) pa_nil)))) pa_nil))))))))))
    (pss_cons (ps_for PassesOwn.never rfl (pi_range2 rfl T.range (pa_cons (pe_callB (call_len_seqK (K := K) rfl) (by rfl) T.len PySem.boot_len (pa_cons (pv 4) pa_nil)) (pa_cons (pv 2) pa_nil))) (pg_name (i := 8) sc_greater_stretches.nd rfl (Or.inr rfl)) (pss_cons (ps_set (i := 9) sc_greater_stretches.nd rfl (Or.inr rfl) (pe_fn G2 (hr.mono (by decide)) (by rfl) pass0 (pa_cons (pv 3) (pa_cons (pv 8) pa_nil))))
    (pss_one (ps_expr (pe_bm PySem.F.plainAttrs_list PySem.F.slot_list_extend PySem.F.type_list_extend mt_extend (pv 6) (pa_cons (pe_lc (own := [("figure", 11)]) (g := gName 11) (tt := tYes) rfl sc_greater_stretches.nd (pi_range2 rfl T.range (pa_cons pe_int (pa_cons (pv 3) pa_nil))) (blkOk_by (own := [("figure", 11)]) (N := N_greater_stretches) (sc := defScope s_greater_stretches) (by decide +kernel)) (fun _ _ _ _ _ => (pg_name (i := 11) sc_greater_stretches.nd rfl (Or.inl rfl))) (fun _ _ _ _ _ => pts_nil) (fun _ _ _ _ _ => (pe_tup (pa_cons (pv 8) (pa_cons (pe_ix (ix_listK (K := K) rfl) (pe_ix (ix_listK (K := K) rfl) (pe_fldK (K := K) rfl (pv 0) rfl) pe_int (fun _ _ => rfl)) (pv 11) (fun _ _ => rfl)) (pa_cons (pe_op op_mulW (pv 11) (pv 9)) pa_nil)))))) pa_nil))))))
    (pss_one (ps_ret (pv 6))))))), ?_⟩
  obtain ⟨dx, pg, pm, ha, ⟨as, hr1, hr2, hr3⟩, hm⟩ := id hg
  have hL3 := figs_len_le hb hn2
  have hL0 := figs_len_pos hb hn
  obtain ⟨L, hL⟩ : ∃ L, (figs b n).length = L := ⟨_, rfl⟩
  refine ⟨_, rfl, a, C, dx, _, _, rfl, ha, c.cl, c.nF, gr_F b pg pm, _, rfl, _, rfl, a, C, dx, _, _, rfl, ha, c.cl, c.nF, gr_F b pg pm, n, b, rfl, hb, hb2, hn2, fun l H0 hl e0 hl0 => ⟨_, _, rfl, ?_⟩⟩
  refine ⟨_, rfl, _, rfl, a, l, b, m, n, g, ms, rfl, hg.kp e0.kp, hl0, hb, wf, hn, hn2, fun ps H1 hps e1 hps1 => ⟨Nat.zero_le _, fun fd hfd => ⟨_, _, rfl, ?_⟩⟩⟩
  have e01 := e0.trans e1
  have ha1 := e01.at_ _ _ ha
  have hr11 := e01.at_ _ _ hr1
  have hr31 : ∀ (i : Nat) (r : List (Option Nat)), g[i]? = some r → ∃ q, as[i]? = some q ∧ H1 q = some (.lst (r.map oV)) := fun i r h => let ⟨q, x, y⟩ := hr3 i r h; ⟨q, x, e01.at_ _ _ y⟩
  have hl1 := e1.at_ _ _ hl0
  have hfd0 : H fd = none := e01.free hfd
  have hll : (nV (figs b n)).length = L := by rw [show (nV (figs b n)).length = (figs b n).length from List.length_map ..]; exact hL
  have hqL : n / b ^ L = 0 := by rw [← hL]; exact Nat.div_eq_of_lt (figs_lt_pow hb n)
  have up0 : upAt b n 0 = n + 1 := by unfold upAt; rw [Nat.pow_zero, Nat.div_one, Nat.mul_one]
  have upL : upAt b n L = b ^ L := by unfold upAt; rw [hqL, Nat.zero_add, Nat.one_mul]
  refine ⟨_, rfl, l, _, rfl, .inl (SqL.of (upd_get hl1 hfd)), _, _, rfl, rfl, _, rfl, _, rfl, (L : Int) - 1, -1, -1, ((L : Int) - 1 - -1).toNat, ?_, RgC.neg (by omega) (by omega) (by decide) (by decide), ?_⟩
  · rw [hll]
  rw [show ((L : Int) - 1 - -1).toNat = L by omega]
  refine for_rangeC (lo := (L : Int) - 1) (c := -1) (n := L) (fun i σ H' => ∃ (o7 o8 o9 o10 o11 : Option V) (xs : List V) (ts : List (Nat × Nat × Nat)), σ = [some (.ref a), some (.int n), some (.int many), some (.int b), some (.ref l), some (.ref ps), some (.ref fd), o7, o8, o9, o10, o11] ∧
    Sm H1 H' ∧ H' fd = some (.lst xs) ∧ TrAre H' xs ts ∧ Tile g b (n + 1) ts (upAt b n i) ∧ ts.length ≤ 16 * i ∧ ∀ t ∈ ts, t.1 < i) ⟨none, none, none, none, none, [], [], rfl, Sm.new hfd, upd_same, TrAre.nil, up0.symm, by simp, fun t h => by cases h⟩ ?_ ?_
  · rintro i σ H2 hi ⟨o7, o8, o9, o10, o11, xs, ts, rfl, e2, hx2, htr, htl, hlen, hlev⟩
    have epl : (L : Int) - 1 + ((i : Nat) : Int) * (-1) = ((L - 1 - i : Nat) : Int) := by omega
    rw [epl]
    obtain ⟨fg, hfg⟩ : ∃ fg, (figs b n)[L - 1 - i]? = some fg := ⟨_, List.getElem?_eq_getElem (by omega)⟩
    obtain ⟨hq1, hfb⟩ := qAt_succ hb hfg
    obtain ⟨q, hq⟩ : ∃ q, q = n / b ^ (i + 1) := ⟨_, rfl⟩
    have hqq : qAt b n (L - 1 - i) = q := by unfold qAt; rw [hL, hq]; congr 2; omega
    have hqn : qAt b n (L - 1 - i + 1) = n / b ^ i := by unfold qAt; rw [hL]; congr 2; omega
    rw [hqq, hqn] at hq1
    have hst : (nV (stsOf g b n ((figs b n).length + 1)))[L - 1 - i]? = some (.int (run g b q : Nat)) := by
      unfold stsOf nV
      rw [List.getElem?_map, List.getElem?_map, List.getElem?_range (by omega)]
      show some (V.int ((run g b (qAt b n (L - 1 - i)) : Nat) : Int)) = _
      rw [hqq]
    have hfv : (nV (figs b n))[L - 1 - i]? = some (.int (fg : Nat)) := by unfold nV; rw [List.getElem?_map, hfg] <;> rfl
    refine ⟨_, rfl, l, _, rfl, .inl (SqL.of (e2.at_ _ _ hl1)), _, _, rfl, rfl, _, rfl, _, _, rfl, rfl, ?_⟩
    have elv : ((((nV (figs b n)).length : Nat) : Int) - 1 - ((L - 1 - i : Nat) : Int)) = ((i : Nat) : Int) := by rw [hll]; omega
    dsimp only
    rw [elv]
    refine ⟨_, rfl, _, rfl, b, i, rfl, hb2, by omega, ?_⟩
    have hpw : b ^ (i + 1) < 2 ^ 3100 := by
      have h1 : b ^ (i + 1) ≤ b ^ L := Nat.pow_le_pow_right (by omega) (by omega)
      have h2 := figs_pow_le hb n hn
      rw [hL] at h2
      have h3 : b ^ L = b ^ (L - 1) * b := by rw [← Nat.pow_succ]; congr 1; omega
      have h4 : b ^ (L - 1) * b ≤ n * 16 := Nat.mul_le_mul h2 hb2
      have h5 : n * 16 < 2 ^ 3000 * 16 := Nat.mul_lt_mul_of_pos_right hn2 (by decide)
      have h6 : (2 : Nat) ^ 3000 * 16 < 2 ^ 3100 := by
        rw [show (3100 : Nat) = 3000 + 100 from rfl, Nat.pow_add]
        exact Nat.mul_lt_mul_of_pos_left (by decide) (Nat.pow_pos (by decide))
      omega
    have epm : ((b ^ i : Nat) : Int) * ((b : Nat) : Int) = ((b ^ (i + 1) : Nat) : Int) := by rw [Nat.pow_succ]; simp
    refine ⟨_, rfl, _, rfl, _, rfl, _, _, rfl, rfl, wide_mul (a := 16001) (b := 10) (by simpa using pow_small (b := b) (t := i) hb2 (by omega)) (by simp; omega) (by decide) (by decide) (by decide), ?_⟩
    dsimp only
    rw [epm]
    refine ⟨_, _, rfl, rfl, wide_div (b := 3100) (by have : 0 < b ^ (i + 1) := Nat.pow_pos (by omega)
                                                     omega) (by simpa using hpw) (by decide) (by decide), _, rfl, _, _, rfl, rfl, wide_mul (a := 3000) (b := 10) (by
      show (((n : Nat) : Int) / ((b ^ (i + 1) : Nat) : Int)).natAbs < _
      rw [show ((n : Nat) : Int) / ((b ^ (i + 1) : Nat) : Int) = ((n / b ^ (i + 1) : Nat) : Int) from rfl]
      exact Nat.lt_of_le_of_lt (Nat.div_le_self _ _) hn2) (by simp; omega) (by decide) (by decide) (by decide), ?_⟩
    have eah : ((n : Nat) : Int) / ((b ^ (i + 1) : Nat) : Int) * ((b : Nat) : Int) = ((q * b : Nat) : Int) := by rw [hq]; simp
    dsimp only
    rw [eah]
    have est : upAt b n i = (q * b + (fg + 1)) * b ^ i := by unfold upAt; rw [hq1, Nat.add_assoc]
    have een : upAt b n (i + 1) = (q * b + (fg + 1) + (b - (fg + 1))) * b ^ i := by
      unfold upAt
      rw [← hq, show q * b + (fg + 1) + (b - (fg + 1)) = (q + 1) * b by rw [Nat.succ_mul]; omega, Nat.pow_succ, Nat.mul_comm (b ^ i) b, Nat.mul_assoc]
    refine ⟨_, rfl, _, rfl, l, _, _, _, rfl, rfl, SqL.of (e2.at_ _ _ hl1), atI_nat hfv, _, _, rfl, rfl, _, rfl, ((fg + 1 : Nat) : Int), (b : Int), rfl, ⟨by omega, by omega, by omega, by omega⟩, ?_⟩
    rw [show ((b : Int) - ((fg + 1 : Nat) : Int)).toNat = b - (fg + 1) by omega]
    refine for_range (lo := ((fg + 1 : Nat) : Int)) (n := b - (fg + 1)) (fun j σ H' => ∃ (o11 : Option V) (xs : List V) (ts : List (Nat × Nat × Nat)), σ = [some (.ref a), some (.int n), some (.int many), some (.int b), some (.ref l), some (.ref ps), some (.ref fd), some (.int (L - 1 - i : Nat)), some (.int (i : Nat)), some (.int (b ^ i : Nat)), some (.int (q * b : Nat)), o11] ∧
      Sm H1 H' ∧ H' fd = some (.lst xs) ∧ TrAre H' xs ts ∧ Tile g b (n + 1) ts ((q * b + (fg + 1) + j) * b ^ i) ∧ ts.length ≤ 16 * i + j ∧ ∀ t ∈ ts, t.1 < i + 1) ⟨_, xs, ts, rfl, e2, hx2, htr, by rw [show q * b + (fg + 1) + 0 = q * b + (fg + 1) from rfl, ← est]; exact htl, by omega, fun t h => Nat.lt_succ_of_lt (hlev t h)⟩ ?_ ?_
    · rintro j σ H3 hj ⟨o11, xs, ts, rfl, e3, hx3, htr3, htl3, hlen3, hlev3⟩
      have ej : ((fg + 1 : Nat) : Int) + (j : Int) = ((fg + 1 + j : Nat) : Int) := by omega
      rw [ej]
      obtain ⟨qr, r, g1, g2, g3⟩ := goals_at wf hr31 (run g b q) (fg + 1 + j) (run_le hb wf _) (by omega) (.inr (by omega))
      refine ⟨_, rfl, .inl ⟨rfl, _, SqL.of hx3⟩, ?_⟩
      refine ⟨_, rfl, _, rfl, a, C, dx, _, _, rfl, e3.at_ _ _ ha1, c.cl, c.nG, gr_G b pg pm, _, rfl, _, rfl, ps, _, _, _, rfl, rfl, SqL.of (e3.at_ _ _ hps1), atI_nat hst, pg, _, _, .ref qr, rfl, rfl, SqL.of (e3.at_ _ _ hr11), atI_nat g1, _, rfl, qr, _, _, .int (nxt g (run g b q) (fg + 1 + j) : Nat), rfl, rfl, SqL.of (e3.at_ _ _ g2), atI_nat g3, ?_⟩
      have hbig : (q * b + (fg + 1 + j)) < 2 ^ 3010 := by
        have h1 : q ≤ n := by rw [hq]; exact Nat.div_le_self _ _
        have h2 : q * b ≤ n * 16 := Nat.mul_le_mul h1 hb2
        have h6 : (2 : Nat) ^ 3000 * 32 < 2 ^ 3010 := by
          rw [show (3010 : Nat) = 3000 + 10 from rfl, Nat.pow_add]
          exact Nat.mul_lt_mul_of_pos_left (by decide) (Nat.pow_pos (by decide))
        have h7 : 16 ≤ 2 ^ 3000 * 16 := Nat.le_mul_of_pos_left _ (Nat.pow_pos (by decide))
        omega
      refine ⟨_, rfl, _, rfl, _, _, rfl, rfl, _, rfl, _, _, rfl, rfl, wide_mul (a := 3010) (b := 16001) (by
        show (((q * b : Nat) : Int) + ((fg + 1 + j : Nat) : Int)).natAbs < _
        rw [← Int.natCast_add]; exact hbig) (by simpa using pow_small (b := b) (t := i) hb2 (by omega)) (by decide) (by decide) (by decide), ?_⟩
      refine ⟨by show 3 ≤ sizeLine; decide, fun pt hpt => ?_⟩
      have hx4 := upd_get (o := .tup [V.int (i : Nat), V.int (nxt g (run g b q) (fg + 1 + j) : Nat), V.int ((((q * b : Nat) : Int) + ((fg + 1 + j : Nat) : Int)) * ((b ^ i : Nat) : Int))]) hx3 hpt
      refine ⟨fd, _, _, rfl, rfl, hx4, by have := htr3.1; exact sz_lt (by omega), ?_⟩
      have npt : pt ≠ fd := fun z => by rw [z, hx3] at hpt; cases hpt
      refine ⟨_, xs ++ [.ref pt], ts ++ [(i, nxt g (run g b q) (fg + 1 + j), (q * b + (fg + 1 + j)) * b ^ i)], rfl, (e3.trans (Sm.new hpt)).mut hfd, upd_same, TrAre.append (htr3.keep fun b' ys hb' => ?_) (TrAre.one ?_), ?_, ?_, ?_⟩
      · rw [upd_ne fun z => by rw [z, hx3] at hb'; cases hb']
        exact upd_get hb' hpt
      · rw [upd_ne npt, upd_same]
        show some (HO.tup _) = some (HO.tup [V.int (i : Nat), V.int (nxt g (run g b q) (fg + 1 + j) : Nat), V.int (((q * b + (fg + 1 + j)) * b ^ i : Nat) : Int)])
        dsimp only
        rw [show (((q * b : Nat) : Int) + ((fg + 1 + j : Nat) : Int)) * ((b ^ i : Nat) : Int) = (((q * b + (fg + 1 + j)) * b ^ i : Nat) : Int) by simp]
      · refine htl3.append ?_
        have tl := tile_from (g := g) (b := b) (q := q) (lo := fg + 1 + j) (l := i) hb (.inr (by omega)) 1 (by omega)
        rw [show q * b + (fg + 1 + j) = q * b + (fg + 1) + j by omega] at tl
        rw [show q * b + (fg + 1) + (j + 1) = q * b + (fg + 1) + j + 1 by omega]
        exact tl
      · rw [List.length_append, List.length_singleton]; omega
      · intro t ht
        rcases List.mem_append.mp ht with h | h
        · exact hlev3 t h
        · rw [List.mem_singleton.mp h]; exact Nat.lt_succ_self _
    · rintro σ H3 ⟨o11, xs, ts, rfl, e3, hx3, htr3, htl3, hlen3, hlev3⟩
      exact ⟨_, _, _, _, _, xs, ts, rfl, e3, hx3, htr3, by rw [een]; exact htl3, by omega, hlev3⟩
  · rintro σ H2 ⟨o7, o8, o9, o10, o11, xs, ts, rfl, e2, hx2, htr, htl, hlen, hlev⟩
    rw [upL] at htl
    refine ⟨_, rfl, l, _, rfl, .inl (SqL.of (e2.at_ _ _ hl1)), _, rfl, (L : Int), (many : Int), ?_, ⟨by omega, by omega, by omega, by omega⟩, ?_⟩
    · rw [hll]
    rw [show ((many : Int) - (L : Int)).toNat = many - L by omega]
    refine for_range (lo := (L : Int)) (n := many - L) (fun i σ H' => ∃ (o7 o8 o9 o10 o11 : Option V) (xs : List V) (ts : List (Nat × Nat × Nat)), σ = [some (.ref a), some (.int n), some (.int many), some (.int b), some (.ref l), some (.ref ps), some (.ref fd), o7, o8, o9, o10, o11] ∧
      Sm H1 H' ∧ H' fd = some (.lst xs) ∧ TrAre H' xs ts ∧ Tile g b (n + 1) ts (b ^ (L + i)) ∧ ts.length ≤ 16 * (L + i) ∧ ∀ t ∈ ts, t.1 < L + i) ⟨_, _, _, _, _, xs, ts, rfl, e2, hx2, htr, htl, hlen, hlev⟩ ?_ ?_
    · rintro i σ H3 hi ⟨o7, o8, o9, o10, o11, xs, ts, rfl, e3, hx3, htr3, htl3, hlen3, hlev3⟩
      have ei : (L : Int) + (i : Int) = ((L + i : Nat) : Int) := by omega
      rw [ei]
      refine ⟨_, rfl, _, rfl, b, L + i, rfl, hb2, by omega, ?_⟩
      refine ⟨_, rfl, .inl ⟨rfl, _, SqL.of hx3⟩, ?_⟩
      refine ⟨_, rfl, (1 : Int), (b : Int), rfl, ⟨by omega, by omega, by omega, by omega⟩, fun Dl hDl => ?_⟩
      rw [show (((b : Nat) : Int) - 1).toNat = b - 1 by omega]
      refine lcmR (n := b - 1) (lo := 1) (fun f y H' => ∃ q, y = .ref q ∧ H' q = some (.tup (trV (L + i, nxt g (run g b 0) (1 + f), (0 * b + (1 + f)) * b ^ (L + i))))) hDl (by omega) (fun x => rfl) (fun k y Ha Hb ⟨acc, hacc⟩ kp ⟨q, e, h⟩ => ⟨q, e, kp _ _ (fun z => by rw [z, hacc] at h; cases h) h⟩) ?_ ?_
      · intro f H4 hf e4 _ Qk hQ
        have e34 := e3.trans e4
        obtain ⟨q, r, g1, g2, g3⟩ := goals_at wf hr31 0 (1 + f) (Nat.zero_le _) (by omega) (.inr (by omega))
        have ef : (1 : Int) + (f : Int) = ((1 + f : Nat) : Int) := by omega
        refine ⟨_, rfl, _, rfl, a, C, dx, _, _, rfl, e34.at_ _ _ ha1, c.cl, c.nG, gr_G b pg pm, pg, _, 0, .ref q, rfl, rfl, SqL.of (e34.at_ _ _ hr11), atI_nat (j := 0) g1, _, rfl, q, _, _, .int (nxt g 0 (1 + f) : Nat), rfl, rfl, SqL.of (e34.at_ _ _ g2), by rw [ef]; exact atI_nat g3, ?_⟩
        refine ⟨_, rfl, _, rfl, _, _, rfl, rfl, wide_mul (a := 10) (b := 16001) (by simp; omega) (by simpa using pow_small (b := b) (t := L + i) hb2 (by omega)) (by decide) (by decide) (by decide), ?_⟩
        refine ⟨by show 3 ≤ sizeLine; decide, fun pt hpt => hQ _ _ (Sm.new hpt) ⟨pt, rfl, ?_⟩⟩
        rw [upd_same, run_zero]
        show some (HO.tup [V.int ((L + i : Nat) : Int), V.int (nxt g 0 (1 + f) : Nat), V.int (((1 : Int) + (f : Int)) * ((b ^ (L + i) : Nat) : Int))]) = some (HO.tup [V.int ((L + i : Nat) : Int), V.int (nxt g 0 (1 + f) : Nat), V.int (((0 * b + (1 + f)) * b ^ (L + i) : Nat) : Int)])
        rw [ef, Nat.zero_mul, Nat.zero_add]
        simp
      · intro ys H4 hyl hys hD4 e4
        have hx4 := e4.at_ _ _ hx3
        refine ⟨fd, Dl, xs, ys, rfl, rfl, hx4, hD4, sz_le (by have := htr3.1; omega), ?_⟩
        have keep : ∀ b' zs, H4 b' = some (.tup zs) → (upd H4 fd (.lst (xs ++ ys))) b' = some (.tup zs) := fun b' zs h => by rw [upd_ne fun z => by rw [z, hx4] at h; cases h]; exact h
        have new : TrAre (upd H4 fd (.lst (xs ++ ys))) ys ((List.range (b - 1)).map fun j => (L + i, nxt g (run g b 0) (1 + j), (0 * b + (1 + j)) * b ^ (L + i))) := by
          refine ⟨by rw [hyl]; simp, fun k x t a c => ?_⟩
          obtain ⟨q, e, h⟩ := hys k x a
          have hk : k < b - 1 := by
            have := (List.getElem?_eq_some_iff.mp a).1
            omega
          rw [List.getElem?_map, List.getElem?_range hk] at c
          rw [← Option.some.inj c]
          exact ⟨q, e, keep _ _ h⟩
        have tl := tile_from (g := g) (b := b) (q := 0) (lo := 1) (l := L + i) hb (.inr (by omega)) (b - 1) (by omega)
        rw [show 0 * b + 1 = 1 by omega, Nat.one_mul, show 1 + (b - 1) = b by omega] at tl
        refine ⟨_, _, _, _, _, xs ++ ys, ts ++ _, rfl, (e3.trans e4).mut hfd, upd_same, (htr3.keep fun b' zs h => keep _ _ (e4.at_ _ _ h)).append new, ?_, ?_, ?_⟩
        · rw [← Nat.add_assoc, Nat.pow_succ, Nat.mul_comm (b ^ (L + i)) b]
          exact htl3.append tl
        · rw [List.length_append, List.length_map, List.length_range]; omega
        · intro t ht
          rcases List.mem_append.mp ht with h | h
          · exact Nat.lt_succ_of_lt (hlev3 t h)
          · obtain ⟨j, _, rfl⟩ := List.mem_map.mp h
            show L + i < L + (i + 1)
            omega
    · rintro σ H3 ⟨o7, o8, o9, o10, o11, xs, ts, rfl, e3, hx3, htr3, htl3, hlen3, hlev3⟩
      rw [show L + (many - L) = many by omega] at htl3 hlev3 hlen3
      exact ⟨_, rfl, k_ fd xs ts H3 hfd0 (e01.trans e3) hx3 htr3 htl3 hlev3 hlen3⟩
end
end Bz
end
section
set_option Elab.async false
set_option linter.all false
set_option maxRecDepth 100000
set_option maxHeartbeats 4000000
namespace Bz
open PySem PySem.Spec PyProof.Rows L2 LamX NdefX
theorem lst_uniq {b s n k : Nat} {g : Rows} (h1 : LstN g b s n) (h2 : LstN g b s k) : n = k := by
  by_cases h : s = 0
  · rw [h1.zero h, h2.zero h]
  · have a := h1.min k (h2.pos (by omega)) h2.run
    have c := h2.min n (h1.pos (by omega)) h1.run
    omega
/-- a pair ahead of another -/
def Lx (p q : Nat × Nat) : Prop := p.1 < q.1 ∨ (p.1 = q.1 ∧ p.2 < q.2)
/-- the first ways to states, by the pairs ahead of one -/
structure WayAt (g : Rows) (b : Nat) (H : Hp) (kvs : List (Nat × V)) (E X : Nat) : Prop where
  some_ : ∀ (t : Nat) (v : V), valV kvs t = some v → ∃ (e x : Nat) (q : Addr), v = .ref q ∧ H q = some (.tup [.int e, .int x]) ∧ Lx (e, x) (E, X) ∧ x < b ∧ ent g e x = some t ∧ ∀ e' x', Lx (e', x') (e, x) → x' < b → ent g e' x' ≠ some t
  none_ : ∀ t, valV kvs t = none → ∀ e' x', Lx (e', x') (E, X) → x' < b → ent g e' x' ≠ some t
theorem WayAt.keep {g : Rows} {b E X : Nat} {H H' : Hp} {kvs : List (Nat × V)} (h : WayAt g b H kvs E X) (e : ∀ b' ys, H b' = some (.tup ys) → H' b' = some (.tup ys)) : WayAt g b H' kvs E X :=
  ⟨fun t v hv => let ⟨e', x, q, a1, a2, a3⟩ := h.some_ t v hv; ⟨e', x, q, a1, e _ _ a2, a3⟩, h.none_⟩
theorem WayAt.nil {g : Rows} {b : Nat} {H : Hp} : WayAt g b H [] 0 0 := ⟨(fun t v h => by cases h), (fun t _ e' x' h _ => by rcases h with h | ⟨_, h⟩ <;> exact absurd h (Nat.not_lt_zero _))⟩
theorem WayAt.row {g : Rows} {b E : Nat} {H : Hp} {kvs : List (Nat × V)} (h : WayAt g b H kvs E b) : WayAt g b H kvs (E + 1) 0 := by
  have key : ∀ e' x', Lx (e', x') (E + 1, 0) → x' < b → Lx (e', x') (E, b) := fun e' x' h1 h2 => by
    rcases h1 with h1 | ⟨_, h1⟩
    · have h1 : e' < E + 1 := h1
      by_cases e : e' = E
      · exact .inr ⟨e, h2⟩
      · exact .inl (show e' < E by omega)
    · have h1 : x' < 0 := h1
      omega
  refine ⟨fun t v hv => ?_, fun t ht e' x' h1 h2 => h.none_ t ht e' x' (key e' x' h1 h2) h2⟩
  obtain ⟨e, x, q, a1, a2, a3, a4⟩ := h.some_ t v hv
  refine ⟨e, x, q, a1, a2, ?_, a4⟩
  rcases a3 with a3 | ⟨a3, _⟩
  · exact .inl (Nat.lt_succ_of_lt a3)
  · exact .inl (by have a3 : e = E := a3; show e < E + 1; omega)
theorem lx_succ {e' x' E X : Nat} (h : Lx (e', x') (E, X + 1)) : Lx (e', x') (E, X) ∨ (e' = E ∧ x' = X) := by
  rcases h with h | ⟨h1, h2⟩
  · exact .inl (.inl h)
  · have h2 : x' < X + 1 := h2
    by_cases e : x' = X
    · exact .inr ⟨h1, e⟩
    · exact .inl (.inr ⟨h1, show x' < X by omega⟩)
theorem lx_up {e' x' E X : Nat} (h : Lx (e', x') (E, X)) : Lx (e', x') (E, X + 1) := by
  rcases h with h | ⟨h1, h2⟩
  · exact .inl h
  · exact .inr ⟨h1, Nat.lt_succ_of_lt h2⟩
theorem WayAt.skip {g : Rows} {b E X : Nat} {H : Hp} {kvs : List (Nat × V)} (h : WayAt g b H kvs E X) (hs : ∀ t, ent g E X = some t → valV kvs t ≠ none) : WayAt g b H kvs E (X + 1) := by
  refine ⟨fun t v hv => ?_, fun t ht e' x' h1 h2 => ?_⟩
  · obtain ⟨e, x, q, a1, a2, a3, a4⟩ := h.some_ t v hv
    exact ⟨e, x, q, a1, a2, lx_up a3, a4⟩
  · rcases lx_succ h1 with h1 | ⟨rfl, rfl⟩
    · exact h.none_ t ht e' x' h1 h2
    · exact fun z => hs t z ht
theorem WayAt.put {g : Rows} {b E X t0 : Nat} {H H' : Hp} {kvs : List (Nat × V)} {q0 : Addr} (h : WayAt g b H kvs E X) (hX : X < b) (ht0 : ent g E X = some t0) (hn : valV kvs t0 = none) (e : ∀ b' ys, H b' = some (.tup ys) → H' b' = some (.tup ys)) (hq : H' q0 = some (.tup [.int E, .int X])) : WayAt g b H' (putK kvs t0 (.ref q0)) E (X + 1) := by
  refine ⟨fun t v hv => ?_, fun t ht e' x' h1 h2 => ?_⟩
  · rw [valV_put] at hv
    by_cases et : t = t0
    · rw [if_pos et] at hv
      subst et
      exact ⟨E, X, q0, (Option.some.inj hv).symm, hq, .inr ⟨rfl, Nat.lt_succ_self _⟩, hX, ht0, fun e' x' h1 h2 => h.none_ t hn e' x' h1 h2⟩
    · rw [if_neg et] at hv
      obtain ⟨e1, x, q, a1, a2, a3, a4⟩ := h.some_ t v hv
      exact ⟨e1, x, q, a1, e _ _ a2, lx_up a3, a4⟩
  · rw [valV_put] at ht
    by_cases et : t = t0
    · rw [if_pos et] at ht; cases ht
    · rw [if_neg et] at ht
      rcases lx_succ h1 with h1 | ⟨rfl, rfl⟩
      · exact h.none_ t ht e' x' h1 h2
      · rw [ht0]; exact fun z => et (Option.some.inj z).symm
section
variable {P : Program} {w : World} {K : PySem.W.Frag} {mg : Str → Option Value} {base : Heap}
abbrev N_least_number : List Str := ["rows", "state", "ways", "earlier", "row", "figure", "later", "number", "power"]
theorem sc_least_number : FnScope N_least_number ["rows", "state"] (defScope s_least_number) := ⟨rfl, rfl, rfl, by decide +kernel, rfl, by decide +kernel, by decide +kernel⟩
theorem hb_least_number : HB s_least_number "least_number" "least_number" ["rows", "state"] := fun _ _ _ _ _ _ us hl => match us, hl with | [_, _], _ => rfl

def spLeN : Sp := fun vs H Q _ => ∃ (p : Addr) (b m s : Nat) (g : Rows), vs = [.ref p, .int s] ∧ RowsAt H p g ∧ Met b m g ∧ 2 ≤ b ∧ b ≤ 16 ∧ s ≤ m ∧ m ≤ 50000 ∧ ∀ (n : Nat) H', Sm H H' → LstN g b s n → Q (.int n) H'
theorem g_least_number {f : Addr} (T : Bt mg) (D : Df K "least_number" "least_number" s_least_number f) (m : mg "least_number" = some (.ref f)) : Fn P w K mg base CXN 1 "least_number" ["rows", "state"] spLeN := by
  refine D.fn m sc_least_number hb_least_number (fun vs H Q E ⟨p, b, m, s, g, e, _⟩ => by rw [e]; rfl) fun cdv A outer s0 H vs Q E hr ⟨p, b, m, s, g, e, hrw, M, hb, hb2, hs, hm5, k_⟩ => ?_
  subst e
  have hu := hu_of hr
  refine ⟨_, (pss_cons (ps_set (i := 2) sc_least_number.nd rfl (Or.inl rfl) (kN.new _ _))
    (pss_cons (ps_for PassesOwn.never rfl (pi_enumK (K := K) rfl (by rfl) T.enumerate (pa_cons (pv 0) pa_nil)) (pg_tup rfl (pgs_cons (pg_name (i := 3) sc_least_number.nd rfl (Or.inl rfl)) (pgs_cons (pg_name (i := 4) sc_least_number.nd rfl (Or.inl rfl)) pgs_nil))) (pss_one (ps_for PassesOwn.never rfl (pi_enumK (K := K) rfl (by rfl) T.enumerate (pa_cons (pv 4) pa_nil)) (pg_tup rfl (pgs_cons (pg_name (i := 5) sc_least_number.nd rfl (Or.inl rfl)) (pgs_cons (pg_name (i := 6) sc_least_number.nd rfl (Or.inl rfl)) pgs_nil))) (pss_one (ps_if (PW.pt (pw_and (pt_cmp (pc_notN (pv 6)) rfl) (pw_and1 (pt_cmp (pc_knotin kN (P := P) (w := w) ⟨rfl, rfl⟩ hu (pv 6) (pv 2)) rfl)))) (pss_one (ps_kput kN (P := P) (w := w) ⟨rfl, rfl⟩ hu (pv 2) (pv 6) (pe_tup (pa_cons (pv 3) (pa_cons (pv 5) pa_nil))) rfl)) pss_nil)))))
    (pss_cons (ps_asg (pe_tup (pa_cons pe_int (pa_cons pe_int pa_nil))) (pg_tup rfl (pgs_cons (pg_name (i := 7) sc_least_number.nd rfl (Or.inl rfl)) (pgs_cons (pg_name (i := 8) sc_least_number.nd rfl (Or.inl rfl)) pgs_nil))))
    (pss_cons (ps_while PassesOwn.never (pt_cmpR (op_gt) (pv 1) pe_int (nomark _)) (pss_cons (ps_asg (pe_kget kN (P := P) (w := w) ⟨rfl, rfl⟩ hu (pv 2) (pv 1) (fun _ _ => rfl)) (pg_tup rfl (pgs_cons (pg_name (i := 1) sc_least_number.nd rfl (Or.inl rfl)) (pgs_cons (pg_name (i := 5) sc_least_number.nd rfl (Or.inl rfl)) pgs_nil))))
    (pss_cons (ps_aug (i := 7) sc_least_number.nd rfl (Or.inl rfl) (pe_op op_mulW (pv 5) (pv 8)) ip_add)
    (pss_one (ps_aug (i := 8) sc_least_number.nd rfl (Or.inl rfl) (pe_callB (call_len_seqK (K := K) rfl) (by rfl) T.len PySem.boot_len (pa_cons (pe_ix (ix_listK (K := K) rfl) (pv 0) pe_int (fun _ _ => rfl)) pa_nil)) ip_mulW)))))
    (pss_one (ps_ret (pv 7))))))), ?_⟩
  obtain ⟨as, hr1, hr2, hr3⟩ := id hrw
  have wf := M.wf
  intro pd hpd
  have npd : ∀ {H' : Hp} {kvs : List (Nat × V)}, H' pd = some (kN.ho P w pd kvs) → ∀ b' ys, H' b' = some (.tup ys) → b' ≠ pd := fun h b' ys h2 z => by
    rw [z, h] at h2
    exact absurd (Option.some.inj h2) (kN.nt _ _ _ _ _)
  have hpl : ∀ H', Sm H H' → SqL K H' p (as.map V.ref) := fun H' e => SqL.of (e.at_ _ _ hr1)
  refine ⟨_, rfl, p, _, rfl, hpl _ (Sm.new hpd), for_it (walk_enum (xs := as.map V.ref)) (fun i σ H' => ∃ (o3 o4 o5 o6 : Option V) (kvs : List (Nat × V)), σ = [some (.ref p), some (.int s), some (.ref pd), o3, o4, o5, o6, none, none] ∧ Sm H H' ∧ H' pd = some (kN.ho P w pd kvs) ∧ WayAt g b H' kvs i 0 ∧ kvs.length ≤ i * b)
    ⟨none, none, none, none, [], rfl, Sm.new hpd, upd_same, WayAt.nil, by simp⟩ (fun i σ H' _ ⟨_, _, _, _, _, _, e, _⟩ => hpl _ e) ?_ ?_⟩
  · rintro i x σ H1 H2 hi ⟨o3, o4, o5, o6, kvs, rfl, e1, hd1, hw1, hk1⟩ ⟨Tt, u, v, rfl, hTt, rfl, hu', hv⟩
    rw [List.length_map, hr2, wf.len] at hi
    have hu' := Option.some.inj hu'
    have hv : (as.map V.ref)[i]? = some v := hv
    obtain ⟨r, hr⟩ : ∃ r, g[i]? = some r := ⟨_, List.getElem?_eq_getElem (by rw [wf.len]; omega)⟩
    obtain ⟨q, hq, hq1⟩ := hr3 i r hr
    rw [List.getElem?_map, hq] at hv
    have hv := Option.some.inj hv
    subst hu' hv
    have hrl : r.length = b := wf.row _ _ hr
    have e2 := Sm.new (o := .tup [V.int (i : Nat), V.ref q]) hTt
    refine ⟨Tt, _, rfl, SqT.of upd_same, rfl, _, _, rfl, _, _, rfl, rfl, ?_⟩
    have hd2 := e2.at_ _ _ hd1
    have hw2 := hw1.keep fun b' ys h => e2.at_ _ _ h
    have e12 := e1.trans e2
    generalize upd H1 Tt (.tup [V.int (i : Nat), V.ref q]) = H3 at *
    refine ⟨_, rfl, q, _, rfl, SqL.of (e12.at_ _ _ hq1), for_it (walk_enum (xs := r.map oV)) (fun j σ H' => ∃ (o5 o6 : Option V) (kvs : List (Nat × V)), σ = [some (.ref p), some (.int s), some (.ref pd), some (.int (i : Nat)), some (.ref q), o5, o6, none, none] ∧ Sm H H' ∧ H' pd = some (kN.ho P w pd kvs) ∧ WayAt g b H' kvs i j ∧ kvs.length ≤ i * b + j)
      ⟨_, _, kvs, rfl, e12, hd2, hw2, hk1⟩ (fun j σ H' _ ⟨_, _, _, _, e, _⟩ => SqL.of (e.at_ _ _ hq1)) ?_ ?_⟩
    · rintro j x σ H4 H5 hj ⟨o5, o6, kvs, rfl, e4, hd4, hw4, hk4⟩ ⟨Tj, u, v, rfl, hTj, rfl, hu', hv⟩
      rw [List.length_map, hrl] at hj
      have hu' := Option.some.inj hu'
      have hv : (r.map oV)[j]? = some v := hv
      obtain ⟨ov, hov⟩ : ∃ ov, r[j]? = some ov := ⟨_, List.getElem?_eq_getElem (by omega)⟩
      rw [List.getElem?_map, hov] at hv
      have hv := Option.some.inj hv
      subst hu' hv
      have hent : ent g i j = ov := ent_of hr hov
      have e5 := Sm.new (o := .tup [V.int (j : Nat), oV ov]) hTj
      refine ⟨Tj, _, rfl, SqT.of upd_same, rfl, _, _, rfl, _, _, rfl, rfl, ?_⟩
      have hd5 := e5.at_ _ _ hd4
      have hw5 := hw4.keep fun b' ys h => e5.at_ _ _ h
      have e45 := e4.trans e5
      generalize upd H4 Tj (.tup [V.int (j : Nat), oV ov]) = H6 at *
      cases ov with
      | none =>
        refine ⟨_, rfl, _, rfl, ?_⟩
        rw [show decide (oV none = V.non) = true from decide_eq_true rfl]
        exact iteF (iteF ⟨_, _, kvs, rfl, e45, hd5, hw5.skip (fun t z => by rw [hent] at z; cases z), by omega⟩)
      | some t =>
        refine ⟨_, rfl, _, rfl, ?_⟩
        rw [show decide (oV (some t) = V.non) = false from decide_eq_false (fun z => by cases z)]
        refine iteT ⟨_, rfl, _, rfl, pd, _, t, rfl, hd5, rfl, _, rfl, ?_⟩
        have hkl : kvs.length < 1000000 := by
          have h1 : (i + 1) * b ≤ 50001 * 16 := Nat.mul_le_mul (by omega) hb2
          rw [Nat.succ_mul] at h1
          omega
        refine ifv (fun h => ?_) (fun h => ?_)
        · have hn : valV kvs t = none := by
            cases e : valV kvs t with
            | none => rfl
            | some y => rw [e] at h; cases h
          refine ⟨_, rfl, _, rfl, by show 2 ≤ sizeLine; decide, fun pt hpt => ⟨_, rfl, _, rfl, pd, kvs, t, rfl, upd_get hd5 hpt, rfl, sz_lt hkl, ?_⟩⟩
          have e7 := Sm.new (o := .tup [V.int (i : Nat), V.int (j : Nat)]) hpt
          have npt : pt ≠ pd := fun z => by rw [z, hd5] at hpt; cases hpt
          refine ⟨_, _, putK kvs t (.ref pt), rfl, (e45.trans e7).mut hpd, upd_same, hw5.put hj hent hn (fun b' ys h => ?_) ?_, by rw [putK_new _ hn, List.length_append, List.length_singleton]; omega⟩
          · rw [upd_ne (npd hd5 _ _ h)]
            exact upd_get h hpt
          · rw [upd_ne npt, upd_same]
        · have hn : valV kvs t ≠ none := fun z => by rw [z] at h; cases h
          exact ⟨_, _, kvs, rfl, e45, hd5, hw5.skip (fun t' z => by rw [hent] at z; rw [← Option.some.inj z]; exact hn), by omega⟩
    · rintro σ H4 ⟨o5, o6, kvs, rfl, e4, hd4, hw4, hk4⟩
      rw [List.length_map, hrl] at hw4 hk4
      exact ⟨_, _, _, _, kvs, rfl, e4, hd4, hw4.row, by rw [Nat.succ_mul]; exact hk4⟩
  · rintro σ H1' ⟨o3, o4, o5, o6, kvs, rfl, e1, hd1, hw1, hk1⟩
    rw [List.length_map, hr2, wf.len] at hw1
    refine ⟨by show 2 ≤ sizeLine; decide, fun p0 hp0 => ⟨p0, _, rfl, SqT.of upd_same, rfl, _, _, rfl, _, _, rfl, rfl, ?_⟩⟩
    have e0 := Sm.new (o := .tup [V.int 0, V.int 1]) hp0
    have e1 := e1.trans e0
    have hd1 := e0.at_ _ _ hd1
    have hw1 := hw1.keep fun b' ys h => e0.at_ _ _ h
    generalize upd H1' p0 (.tup [V.int 0, V.int 1]) = H1 at *
    obtain ⟨n0, ln0⟩ := lst_ex M hs
    obtain ⟨r0, hr0⟩ : ∃ r0, g[0]? = some r0 := ⟨_, List.getElem?_eq_getElem (by rw [wf.len]; omega)⟩
    obtain ⟨q0, hq0, hq01⟩ := hr3 0 r0 hr0
    have hr0l : r0.length = b := wf.row _ _ hr0
    refine wl (fun k σ H' => ∃ (N j μ : Nat) (o3 o4 o5 o6 : Option V), σ = [some (.ref p), some (.int k), some (.ref pd), o3, o4, o5, o6, some (.int N), some (.int (b ^ j : Nat))] ∧ H' = H1 ∧ k ≤ m ∧ LstN g b k μ ∧ N + b ^ j * μ = n0 ∧ j + k ≤ s)
      s ⟨0, 0, n0, _, _, _, _, by rw [Nat.pow_zero] <;> rfl, rfl, hs, ln0, by simp, by omega⟩ ?_ ?_
    · rintro k σ H2 ⟨N, j, μ, o3, o4, o5, o6, rfl, rfl, hk, lk, hN, hj⟩
      refine ⟨_, rfl, _, _, rfl, rfl, _, rfl, ?_⟩
      refine ifb (fun hk0 => ?_) (fun hk0 => ?_)
      · have hk0 : 0 < k := by omega
        obtain ⟨nr, hnr, hnr2⟩ := M.reach k hk0 hk
        obtain ⟨k1, k2, k3, k4⟩ := split_num hb hnr
        have hvn : valV kvs k ≠ none := fun z => by
          refine hw1.none_ k z (run g b (nr / b)) (nr % b) (.inl (Nat.lt_succ_of_le (run_le hb wf _))) k2 ?_
          have h0 : 0 < run g b (nr / b) ∨ 0 < nr % b := by
            rcases k3 with h | h
            · exact .inl (wf.run hb _ h).1
            · exact .inr h
          rw [wf.ent_nxt (run_le hb wf _) k2 h0, ← run_snoc hb k2 k3, ← k1, hnr2]
        obtain ⟨v, hv⟩ : ∃ v, valV kvs k = some v := Option.ne_none_iff_exists'.mp hvn
        obtain ⟨e, x, q, rfl, hq, hlx, hxb, hent, hfirst⟩ := hw1.some_ k v hv
        have hem : e ≤ m := by
          rcases hlx with h | ⟨_, h⟩
          · exact Nat.le_of_lt_succ h
          · exact absurd h (Nat.not_lt_zero _)
        have h0 : 0 < e ∨ 0 < x := by
          apply Classical.byContradiction
          intro z
          have he0 : e = 0 := by omega
          have hx0 : x = 0 := by omega
          rw [he0, hx0, wf.e00] at hent
          cases hent
        have hnx : nxt g e x = k := by
          have := wf.ent_nxt hem hxb h0
          rw [hent] at this
          exact (Option.some.inj this).symm
        obtain ⟨qe, lq⟩ := lst_ex M hem
        obtain ⟨s1, s2⟩ := lst_step hb M hk0 hxb hem h0 hnx (fun e' x' h1 h2 h3 h4 => by
          apply Classical.byContradiction
          intro z
          refine hfirst e' x' ?_ h2 (by rw [wf.ent_nxt h1 h2 h3, h4])
          by_cases h : e' < e
          · exact .inl h
          · exact .inr ⟨show e' = e by omega, show x' < x by omega⟩) lq
        have hμ := lst_uniq lk s1
        refine ⟨_, rfl, _, rfl, pd, kvs, k, _, rfl, hd1, rfl, hv, q, _, rfl, SqT.of hq, rfl, _, _, rfl, _, _, rfl, rfl, ?_⟩
        refine ⟨_, rfl, _, rfl, _, rfl, _, _, rfl, rfl, wide_mul (a := 10) (b := 200010) (by simp; omega) (by
          rw [Int.natAbs_natCast]
          refine Nat.lt_of_le_of_lt (Nat.pow_le_pow_left hb2 j) ?_
          rw [show (16 : Nat) = 2 ^ 4 from rfl, ← Nat.pow_mul]
          exact Nat.pow_lt_pow_right (by decide) (by omega)) (by decide) (by decide) (by decide), _, _, rfl, rfl, ?_⟩
        refine ⟨_, rfl, _, rfl, p, _, 0, _, rfl, rfl, hpl _ e1, atI_nat (j := 0) (by rw [List.getElem?_map, hq0] <;> rfl), q0, _, rfl, .inl (SqL.of (e1.at_ _ _ hq01)), _, _, rfl, rfl, ?_, ?_⟩
        · rw [List.length_map, hr0l]
          exact wide_mul (a := 200010) (b := 10) (by
            rw [Int.natAbs_natCast]
            refine Nat.lt_of_le_of_lt (Nat.pow_le_pow_left hb2 j) ?_
            rw [show (16 : Nat) = 2 ^ 4 from rfl, ← Nat.pow_mul]
            exact Nat.pow_lt_pow_right (by decide) (by omega)) (by simp; omega) (by decide) (by decide) (by decide)
        refine ⟨e, s2, N + x * b ^ j, j + 1, qe, o3, o4, some (.int (x : Nat)), o6, ?_, rfl, hem, lq, ?_, by omega⟩
        · rw [List.length_map, hr0l]
          have e1 : ((b ^ j : Nat) : Int) * (b : Int) = ((b ^ (j + 1) : Nat) : Int) := by rw [Nat.pow_succ]; simp
          have e2 : ((N + x * b ^ j : Nat) : Int) = (N : Int) + (x : Int) * ((b ^ j : Nat) : Int) := by simp
          rw [← e1, e2]
          rfl
        · rw [← hN, hμ, Nat.pow_succ, Nat.mul_add, Nat.add_assoc, Nat.mul_comm x (b ^ j), Nat.mul_assoc, Nat.mul_comm b qe]
          omega
      · have h0 : k = 0 := by omega
        subst h0
        rw [lk.zero rfl, Nat.mul_zero, Nat.add_zero] at hN
        subst hN
        exact ⟨_, rfl, k_ N H2 e1 ln0⟩
    · rintro σ H0 Q1 Q2 hq ⟨v, a1, i, j, a2, a3, k, a4, q⟩
      exact ⟨v, a1, i, j, a2, a3, k, a4, hq _ _ q⟩
/-- the least of a kind -/
def LeastR (F : Nat → Bool) (v : V) : Prop := (∃ x : Nat, 0 < x ∧ F x = true ∧ (∀ y, 0 < y → F y = true → x ≤ y) ∧ v = .int x) ∨ ((∀ y, 0 < y → F y = false) ∧ v = .non)
abbrev N_least_told : List Str := ["grid", "state"]
theorem sc_least_told : FnScope N_least_told ["grid"] (defScope s_least_told) := ⟨rfl, rfl, rfl, by decide +kernel, rfl, by decide +kernel, by decide +kernel⟩
theorem hb_least_told : HB s_least_told "least_told" "least_told" ["grid"] := fun _ _ _ _ _ _ us hl => match us, hl with | [_], _ => rfl

def spLeT (C : Addr) : Sp := fun vs H Q _ => ∃ (a : Addr) (b m : Nat) (g : Rows) (ms : List V) (mk F : Nat → Bool), vs = [.ref a] ∧ GridAt C H a b g ms ∧ MarksAre kB H ms mk m ∧ Canon b m g mk F ∧ 2 ≤ b ∧ b ≤ 16 ∧ m ≤ 50000 ∧ ∀ v H', Sm H H' → LeastR F v → Q v H'
theorem g_least_told {f C : Addr} (T : Bt mg) (c : GrC K C) (D : Df K "least_told" "least_told" s_least_told f) (m : mg "least_told" = some (.ref f)) (G1 : Fn P w K mg base CXN 1 "least_number" ["rows", "state"] spLeN) : Fn P w K mg base CXN 2 "least_told" ["grid"] (spLeT C) := by
  refine D.fn m sc_least_told hb_least_told (fun vs H Q E ⟨a, b, m, g, ms, mk, F, e, _⟩ => by rw [e]; rfl) fun cdv A outer s0 H vs Q E hr ⟨a, b, m, g, ms, mk, F, e, hg, hms, hc, hb, hb2, hm5, k_⟩ => ?_
  subst e
  refine ⟨_, (pss_cons (ps_for PassesOwn.never rfl (pi_range2 rfl T.range (pa_cons pe_int (pa_cons (pe_callB (call_len_seqK (K := K) rfl) (by rfl) T.len PySem.boot_len (pa_cons (pe_fldK (K := K) rfl (pv 0) rfl) pa_nil)) pa_nil))) (pg_name (i := 1) sc_least_told.nd rfl (Or.inl rfl)) (pss_one (ps_if (pt_val (pe_ix (ix_listK (K := K) rfl) (pe_fldK (K := K) rfl (pv 0) rfl) (pv 1) (fun _ _ => rfl))) (pss_one (ps_ret (pe_fn G1 (hr.mono (by decide)) (by rfl) pass0 (pa_cons (pe_fldK (K := K) rfl (pv 0) rfl) (pa_cons (pv 1) pa_nil))))) pss_nil)))
    (pss_one (ps_ret pe_non))), ?_⟩
  obtain ⟨dx, pg, pm, ha, hrw, hm⟩ := id hg
  obtain ⟨as, hr1, hr2, hr3⟩ := id hrw
  have wf := hc.met.wf
  refine ⟨_, rfl, a, C, dx, _, _, rfl, ha, c.cl, c.nG, gr_G b pg pm, pg, _, rfl, .inl (SqL.of hr1), _, _, rfl, ?_⟩
  rw [show (as.map V.ref).length = m + 1 by rw [List.length_map, hr2, wf.len]]
  refine ⟨⟨by omega, by omega, by omega, by omega⟩, ?_⟩
  rw [show (((m + 1 : Nat) : Int) - 1).toNat = m by omega]
  refine for_range (lo := 1) (n := m) (fun i σ H' => ∃ o, σ = [some (.ref a), o] ∧ H' = H ∧ ∀ t, 1 ≤ t → t < i + 1 → mk t = false) ⟨none, rfl, rfl, fun t h1 h2 => by omega⟩ ?_ ?_
  · rintro i σ H1 hi ⟨o, rfl, rfl, hno⟩
    have ei : (1 : Int) + (i : Int) = ((i + 1 : Nat) : Int) := by omega
    rw [ei]
    obtain ⟨v, hv1, hv2⟩ := hms.at_ (i + 1) (by omega) (by omega)
    have hv2 : v = .bl (mk (i + 1)) := hv2
    subst hv2
    refine ⟨_, rfl, a, C, dx, _, _, rfl, ha, c.cl, c.nM, gr_M b pg pm, _, rfl, pm, _, _, _, rfl, rfl, SqL.of hm, atI_nat (j := i + 1) (by rw [List.getElem?_cons_succ]; exact hv1), _, rfl, ?_⟩
    cases hmk : mk (i + 1) with
    | true =>
      refine iteT ⟨_, rfl, a, C, dx, _, _, rfl, ha, c.cl, c.nG, gr_G b pg pm, _, rfl, pg, b, m, i + 1, g, rfl, hrw, hc.met, hb, hb2, by omega, hm5, fun n H2 e2 hn => ?_⟩
      obtain ⟨x1, x2, x3⟩ := least_told hb hc (s := i + 1) (by omega) (by omega) hmk (fun t h1 h2 => hno t h1 h2) hn
      exact k_ _ H2 e2 (.inl ⟨n, x1, x2, x3, rfl⟩)
    | false =>
      refine iteF ⟨_, rfl, rfl, fun t h1 h2 => ?_⟩
      by_cases ht : t = i + 1
      · rw [ht]; exact hmk
      · exact hno t h1 (by omega)
  · rintro σ H1 ⟨o, rfl, rfl, hno⟩
    exact k_ _ _ (Sm.refl _) (.inr ⟨least_none hb hc fun t h1 h2 => hno t h1 (by omega), rfl⟩)
abbrev N_Kind_least : List Str := ["self"]
theorem sc_Kind_least : FnScope N_Kind_least ["self"] (defScope s_Kind_least) := ⟨rfl, rfl, rfl, by decide +kernel, rfl, by decide +kernel, by decide +kernel⟩
theorem hb_Kind_least : HB s_Kind_least "least" "Kind.least" ["self"] := fun _ _ _ _ _ _ us hl => match us, hl with | [_], _ => rfl

def spKLeast (CG C : Addr) : Sp := fun vs H Q _ => ∃ (a : Addr) (b : Nat) (F : Nat → Bool), vs = [.ref a] ∧ KindAt CG C H a b F ∧ ∀ v H', Sm H H' → LeastR F v → Q v H'
theorem g_Kleast {f CG C : Addr} (c : KiC K mg CG C) (D : Df K "least" "Kind.least" s_Kind_least f) (m : Meth K C "least" f) (G1 : Fn P w K mg base CXN 2 "least_told" ["grid"] (spLeT CG)) : Mt P w K mg base CXN 3 C "least" ["self"] (spKLeast CG C) := by
  refine D.mt m sc_Kind_least hb_Kind_least (fun vs H Q E ⟨a, b, F, e, _⟩ => by rw [e]; rfl) fun cdv A outer s H vs Q E hr ⟨a, b, F, e, hk, k_⟩ => ?_
  subst e
  refine ⟨_, (pss_one (ps_ret (pe_fn G1 hr (by rfl) pass0 (pa_cons (pe_fldK (K := K) rfl (pv 0) rfl) pa_nil)))), ?_⟩
  obtain ⟨dx, pg, m1, g1, ms1, mk1, hx, hg1, hc1, hm1, hl1, hb, hb2⟩ := id hk
  exact ⟨_, rfl, a, C, dx, _, _, rfl, hx, c.cl, c.nG, lk_eq _ _ _, pg, b, m1, g1, ms1, mk1, F, rfl, hg1, hm1, hc1, hb, hb2, by omega, k_⟩
end
end Bz
end
section
set_option Elab.async false
set_option linter.all false
set_option maxRecDepth 100000
set_option maxHeartbeats 4000000
namespace Bz
open PySem PySem.Spec PyProof.Rows L2 LamX NdefX
/-- whether stretches have one -/
abbrev aLev (g : Rows) (b : Nat) (mk : Nat → Bool) : Nat → Nat → Bool := lev g b mk (fun x y => x || y)
theorem aLev_any {b m : Nat} {g : Rows} {mk F : Nat → Bool} (hb : 2 ≤ b) (hc : Canon b m g mk F) : ∀ l n, 0 < n → aLev g b mk l (run g b n) = decide (0 < cw F (n * b ^ l) (b ^ l)) := lev_any hb hc.tells
section
variable {P : Program} {w : World} {K : PySem.W.Frag} {mg : Str → Option Value} {base : Heap}
abbrev N_least_within : List Str := ["grid", "levels", "level", "state", "least", "part", "good"]
theorem sc_least_within : FnScope N_least_within ["grid", "levels", "level", "state", "least"] (defScope s_least_within) := ⟨rfl, rfl, rfl, by decide +kernel, rfl, by decide +kernel, by decide +kernel⟩
theorem hb_least_within : HB s_least_within "least_within" "least_within" ["grid", "levels", "level", "state", "least"] := fun _ _ _ _ _ _ us hl => match us, hl with | [_, _, _, _, _], _ => rfl

def spLeW (C : Addr) : Sp := fun vs H Q _ => ∃ (a pl : Addr) (b m many l s lo q : Nat) (g : Rows) (ms : List V) (mk F : Nat → Bool), vs = [.ref a, .ref pl, .int l, .int s, .int lo] ∧ GridAt C H a b g ms ∧ Canon b m g mk F ∧ 2 ≤ b ∧ b ≤ 16 ∧ LevAt kB H pl (aLev g b mk) m many ∧ many ≤ 3500 ∧ l < many ∧
  0 < q ∧ lo = q * b ^ l ∧ s = run g b q ∧ 0 < cw F lo (b ^ l) ∧ ∀ (x : Nat) H', Sm H H' → lo ≤ x → x < lo + b ^ l → F x = true → (∀ y, lo ≤ y → y < x → F y = false) → Q (.int x) H'
theorem g_least_within {f C : Addr} (T : Bt mg) (c : GrC K C) (D : Df K "least_within" "least_within" s_least_within f) (m : mg "least_within" = some (.ref f)) (G1 : Fn P w K mg base CXN 2 "parts_of" ["grid", "level", "state", "least"] (spParts C)) : Fn P w K mg base CXN 3 "least_within" ["grid", "levels", "level", "state", "least"] (spLeW C) := by
  refine D.fn m sc_least_within hb_least_within (fun vs H Q E ⟨a, pl, b, m, many, l, s, lo, q, g, ms, mk, F, e, _⟩ => by rw [e]; rfl) fun cdv A outer s0 H vs Q E hr ⟨a, pl, b, m, many, l, s, lo, q, g, ms, mk, F, e, hg, hc, hb, hb2, hlev, hm4, hl, hq, hlo, hs, hcw, k_⟩ => ?_
  subst e
  refine ⟨_, (pss_cons (ps_while PassesOwn.never (pt_cmpR (op_gt) (pv 2) pe_int (nomark _)) (pss_cons (ps_setLc (i := 6) (own := [("part", 5)]) (g := gName 5)  rfl sc_least_within.nd rfl rfl (sw_true rfl rfl rfl (by decide +kernel)) (pi_listK (K := K) rfl (pe_fn G1 (hr.mono (by decide)) (by rfl) pass0 (pa_cons (pv 0) (pa_cons (pv 2) (pa_cons (pv 3) (pa_cons (pv 4) pa_nil)))))) (blkOk_by (own := [("part", 5)]) (N := N_least_within) (sc := defScope s_least_within) (by decide +kernel)) (fun _ _ _ _ _ => (pg_name (i := 5) sc_least_within.nd rfl (Or.inl rfl))) (fun _ _ _ _ _ => (pts_one (pt_val (pe_ix (ix_listK (K := K) rfl) (pe_ix (ix_listK (K := K) rfl) (pv 1) (pe_ix (ix_tupK (K := K) rfl) (pv 5) pe_int (fun _ _ => rfl)) (fun _ _ => rfl)) (pe_ix (ix_tupK (K := K) rfl) (pv 5) pe_int (fun _ _ => rfl)) (fun _ _ => rfl))))) (fun _ _ _ _ _ => (pv 5)))
    (pss_one (ps_asg (pe_ix (ix_listK (K := K) rfl) (pv 6) pe_int (fun _ _ => rfl)) (pg_tup rfl (pgs_cons (pg_name (i := 2) sc_least_within.nd rfl (Or.inl rfl)) (pgs_cons (pg_name (i := 3) sc_least_within.nd rfl (Or.inl rfl)) (pgs_cons (pg_name (i := 4) sc_least_within.nd rfl (Or.inl rfl)) pgs_nil))))))))
    (pss_one (ps_ret (pv 4)))), ?_⟩
  have wf := hc.met.wf
  refine wl (fun k σ H' => ∃ (s' lo' q' : Nat) (o5 o6 : Option V), σ = [some (.ref a), some (.ref pl), some (.int (k : Nat)), some (.int s'), some (.int lo'), o5, o6] ∧ Sm H H' ∧ k ≤ l ∧ 0 < q' ∧ lo' = q' * b ^ k ∧ s' = run g b q' ∧ 0 < cw F lo' (b ^ k) ∧ lo ≤ lo' ∧ lo' + b ^ k ≤ lo + b ^ l ∧ ∀ y, lo ≤ y → y < lo' → F y = false)
    l ⟨s, lo, q, none, none, rfl, Sm.refl H, Nat.le_refl _, hq, hlo, hs, hcw, Nat.le_refl _, Nat.le_refl _, fun y h1 h2 => by omega⟩ ?_ ?_
  · rintro k σ H1 ⟨s', lo', q', o5, o6, rfl, e1, hk, hq', hlo', hs', hcw', hle, hle2, hno⟩
    refine ⟨_, rfl, _, _, rfl, rfl, _, rfl, ?_⟩
    have k04 : k ≤ 3500 := by omega
    refine ifb (fun hk0 => ?_) (fun hk0 => ?_)
    · obtain ⟨k1, rfl⟩ : ∃ k1, k = k1 + 1 := ⟨k - 1, by omega⟩
      obtain ⟨r1, r2⟩ := wf.run hb q' hq'
      rw [← hs'] at r1 r2
      refine ⟨_, rfl, _, rfl, _, rfl, _, rfl, a, b, m, k1, s', lo', g, ms, rfl, hg.kp e1.kp, hb, hb2, wf, r1, r2, by omega, fun pp pxs H2 hpp e2 hpx hptr => ⟨pp, rfl, ⟨_, SqL.of hpx⟩, fun Dl hDl => ?_⟩⟩
      obtain ⟨p, hp⟩ : ∃ p : Nat × Nat × Nat → Bool, p = fun t => aLev g b mk t.1 t.2.1 := ⟨_, rfl⟩
      have hplen : (partsOf g b (k1 + 1, s', lo')).length = b := by unfold partsOf; simp
      have hpt1 : ∀ t ∈ partsOf g b (k1 + 1, s', lo'), t.1 = k1 := fun t ht => by
        unfold partsOf at ht
        obtain ⟨f', _, rfl⟩ := List.mem_map.mp ht
        rfl
      have htile := partsOf_tile (g := g) hb hq' hlo' hs'
      refine lc_list (K := K) (a := pp) (xs := pxs) (fun j H' => Sm H2 H' ∧ ∃ acc, H' Dl = some (.lst acc) ∧ TrAre H' acc (((partsOf g b (k1 + 1, s', lo')).take j).filter p)) ⟨Sm.new hDl, [], upd_same, TrAre.nil⟩ (fun j H' _ q => SqL.of (q.1.at_ _ _ hpx)) ?_ ?_
      · rintro j v H3 hj ⟨e3, acc, hac, htr⟩
        obtain ⟨t, qt, ht, rfl, hqt⟩ := hptr.at_ hj
        have htm := List.mem_of_getElem? ht
        obtain ⟨qn, hqn, es⟩ := Tile.mem htile t htm
        obtain ⟨z1, z2⟩ := wf.run hb qn hqn
        rw [← es] at z1 z2
        have e123 := e1.trans (e2.trans e3)
        obtain ⟨ls, ql, ys, u, g1, g2, g3, g4, g5⟩ := lev_get (hlev.sm e123) (show t.1 < many by rw [hpt1 t htm]; omega) z1 z2
        have g5 : u = .bl (p t) := by rw [hp]; exact g5
        subst g5
        have hqt3 := e3.at_ _ _ hqt
        have hjb : j < b := by rw [← hplen]; exact (List.getElem?_eq_some_iff.mp ht).1
        have hal : acc.length < sizeLine := by
          have h1 := htr.1
          have h2 := List.length_filter_le p ((partsOf g b (k1 + 1, s', lo')).take j)
          rw [List.length_take] at h2
          exact sz_lt (by omega)
        have et : ((partsOf g b (k1 + 1, s', lo')).take (j + 1)).filter p = ((partsOf g b (k1 + 1, s', lo')).take j).filter p ++ if p t = true then [t] else [] := by
          rw [List.take_add_one, ht, List.filter_append]
          congr 1
          by_cases h : p t = true
          · rw [if_pos h]; exact List.filter_cons_of_pos h
          · rw [if_neg h]; exact List.filter_cons_of_neg h
        refine ⟨rfl, _, rfl, _, rfl, qt, _, 0, _, rfl, rfl, SqT.of hqt3, rfl, pl, _, _, _, rfl, rfl, SqL.of g1, atI_nat g2, _, rfl, qt, _, 1, _, rfl, rfl, SqT.of hqt3, rfl, ql, _, _, _, rfl, rfl, SqL.of g3, atI_nat g4, _, rfl, ?_⟩
        cases hpt : p t with
        | true =>
          refine iteT ⟨_, rfl, acc, hac, hal, e3.mut hDl, acc ++ [.ref qt], upd_same, ?_⟩
          rw [et, if_pos hpt]
          refine TrAre.append (htr.keep fun b' ys h => ?_) (TrAre.one ?_)
          · rw [upd_ne fun z => by rw [z, hac] at h; cases h]; exact h
          · rw [upd_ne fun z => by rw [z, hac] at hqt3; cases hqt3]; exact hqt3
        | false =>
          refine iteF ⟨e3, acc, hac, ?_⟩
          rw [et, if_neg (by rw [hpt]; decide), List.append_nil]
          exact htr
      · rintro H3 ⟨e3, acc, hac, htr⟩
        rw [hptr.1, List.take_length] at htr
        rcases Tile.first (F := F) hb (p := p) (fun t qn hqn es => by rw [hp]; show aLev g b mk t.1 t.2.1 = _; rw [es]; exact aLev_any hb hc t.1 qn hqn) htile with ⟨_, hnone⟩ | ⟨t, r, qn, h1, h2, h3, h4, h5, h6, h7, h8, h9⟩
        · obtain ⟨i, hi, hF⟩ := cw_pos.mp hcw'
          rw [hnone (lo' + i) (by omega) (by omega)] at hF
          cases hF
        · rw [h1] at htr
          have et1 := hpt1 t h2
          obtain ⟨l1, t2, lo2⟩ := t
          have et1 : l1 = k1 := et1
          subst et1
          have h4 : lo2 = qn * b ^ l1 := h4
          have h5 : t2 = run g b qn := h5
          have h6 : 0 < cw F lo2 (b ^ l1) := h6
          have h7 : lo' ≤ lo2 := h7
          have h8 : lo2 + b ^ l1 ≤ lo' + b ^ (l1 + 1) := h8
          have h9 : ∀ y, lo' ≤ y → y < lo2 → F y = false := h9
          obtain ⟨x, hx⟩ : ∃ x, acc[0]? = some x := ⟨_, List.getElem?_eq_getElem (by rw [htr.1]; simp)⟩
          obtain ⟨t', qt, ht', rfl, hqt⟩ := htr.at_ hx
          have ht' : (l1, t2, lo2) = t' := Option.some.inj ht'
          subst ht'
          refine ⟨_, rfl, Dl, _, 0, _, rfl, rfl, SqL.of hac, atI_nat (j := 0) hx, qt, _, rfl, SqT.of hqt, rfl, _, _, rfl, _, _, rfl, _, _, rfl, rfl, ?_⟩
          refine ⟨l1, Nat.lt_succ_self _, t2, lo2, qn, _, _, rfl, e1.trans (e2.trans e3), by omega, h3, h4, h5, h6, by omega, by omega, fun y y1 y2 => ?_⟩
          by_cases hy : y < lo'
          · exact hno y y1 hy
          · exact h9 y (by omega) y2
    · have h0 : k = 0 := by omega
      subst h0
      obtain ⟨i, hi, hF⟩ := cw_pos.mp hcw'
      rw [Nat.pow_zero] at hi hle2
      have : i = 0 := by omega
      subst this
      exact ⟨_, rfl, k_ lo' H1 e1 hle (by omega) hF hno⟩
  · rintro σ H0 Q1 Q2 hq ⟨v, a1, i, j, a2, a3, k, a4, q⟩
    exact ⟨v, a1, i, j, a2, a3, k, a4, hq _ _ q⟩
abbrev N_Grid_width : List Str := ["self"]
theorem sc_Grid_width : FnScope N_Grid_width ["self"] (defScope s_Grid_width) := ⟨rfl, rfl, rfl, by decide +kernel, rfl, by decide +kernel, by decide +kernel⟩
theorem hb_Grid_width : HB s_Grid_width "width" "Grid.width" ["self"] := fun _ _ _ _ _ _ us hl => match us, hl with | [_], _ => rfl

def spWidth (C : Addr) : Sp := fun vs H Q _ => ∃ (a : Addr) (b m : Nat) (g : Rows) (ms : List V), vs = [.ref a] ∧ GridAt C H a b g ms ∧ Wf b m g ∧ Q (.int m) H
theorem g_width {f C : Addr} (T : Bt mg) (c : GrC K C) (D : Df K "width" "Grid.width" s_Grid_width f) (m : Meth K C "width" f) : Mt P w K mg base CXN 1 C "width" ["self"] (spWidth C) := by
  refine D.mt m sc_Grid_width hb_Grid_width (fun vs H Q E ⟨a, b, m, g, ms, e, _⟩ => by rw [e]; rfl) fun cdv A outer s H vs Q E hr ⟨a, b, m, g, ms, e, hg, wf, k_⟩ => ?_
  subst e
  refine ⟨_, (pss_one (ps_ret (pe_op op_sub (pe_callB (call_len_seqK (K := K) rfl) (by rfl) T.len PySem.boot_len (pa_cons (pe_fldK (K := K) rfl (pv 0) rfl) pa_nil)) pe_int))), ?_⟩
  obtain ⟨dx, pg, pm, ha, ⟨as, hr1, hr2, hr3⟩, hm⟩ := id hg
  refine ⟨_, rfl, a, C, dx, _, _, rfl, ha, c.cl, c.nG, gr_G b pg pm, pg, _, rfl, .inl (SqL.of hr1), _, _, rfl, rfl, ?_⟩
  have e : (((as.map V.ref).length : Nat) : Int) - 1 = (m : Int) := by rw [List.length_map, hr2, wf.len]; omega
  dsimp only
  rw [e]
  exact k_
/-- lambda mark: mark -/
theorem run_idm {f : Addr} {F : CF} {U : Bool → Prop} {cs : Cells} {p1 p2 : Pos} (I : Inn F (args1 "mark" p1) (.expr (.Name "mark" p2)) (scL [("mark", .local)])) (C : CellsC F [] [] cs) (all : ∀ c o, cs.lookup c = some o → ∃ y, F.cl.lookup y = some c) :
    Runs P w K mg base 2 f F cs (spMark kB kB U fun s => s) := by
  obtain ⟨nm, q, pa, bo, sc, cl, c⟩ := F
  obtain ⟨e1, e2, e3⟩ := I
  simp only at e1 e2 e3
  subst e1 e2 e3
  refine runs_expr (N := ["mark"]) (ps := ["mark"]) (nscope_by (sc := scL [("mark", .local)]) (by decide +kernel)) rfl (fun _ _ _ us hl => match us, hl with | [_], _ => rfl) C all (fun vs H Q E ⟨v, s, e, _⟩ => by rw [e]; rfl) fun A outer s H vs Q E hr hf hc ⟨v, s, e, hk, hU, k_⟩ => ?_
  subst e
  exact ⟨_, pv 0, _, rfl, endC_of hc (k_ H _ (Sm.refl H) hk)⟩
/-- lambda one, two: one or two -/
theorem run_or {f : Addr} {F : CF} {cs : Cells} {p1 p2 p3 p4 p5 : Pos} (I : Inn F (args2 "one" "two" p1 p2) (.expr (.BoolOp .Or [.Name "one" p3, .Name "two" p4] p5)) (scL [("one", .local), ("two", .local)])) (C : CellsC F [] [] cs) (all : ∀ c o, cs.lookup c = some o → ∃ y, F.cl.lookup y = some c) :
    Runs P w K mg base 2 f F cs (spJn kB (fun x y => x || y)) := by
  obtain ⟨nm, q, pa, bo, sc, cl, c⟩ := F
  obtain ⟨e1, e2, e3⟩ := I
  simp only at e1 e2 e3
  subst e1 e2 e3
  refine runs_expr (N := ["one", "two"]) (ps := ["one", "two"]) (nscope_by (sc := scL [("one", .local), ("two", .local)]) (by decide +kernel)) rfl (fun _ _ _ us hl => match us, hl with | [_, _], _ => rfl) C all (fun vs H Q E ⟨v, f, x, y, e, _⟩ => by rw [e]; rfl) fun A outer s H vs Q E hr hf hc ⟨v1, v2, x, y, e, h1, h2, k_⟩ => ?_
  subst e
  have h1 : v1 = .bl x := h1
  have h2 : v2 = .bl y := h2
  subst h1 h2
  refine ⟨_, (pe_or (pv 0) (pe_one (pv 1))), _, rfl, x, rfl, ?_⟩
  cases x with
  | true => exact iteT (endC_of hc (k_ H _ (Sm.refl H) rfl))
  | false => exact iteF ⟨_, rfl, endC_of hc (k_ H _ (Sm.refl H) (by show V.bl y = V.bl (false || y); rw [Bool.false_or]))⟩
/-- what next_number tells -/
def NxtR (F : Nat → Bool) (n : Nat) (B : Nat) (v : V) : Prop := (∃ x : Nat, n < x ∧ x < B ∧ F x = true ∧ (∀ y, n < y → y < x → F y = false) ∧ v = .int x) ∨ ((∀ y, n < y → F y = false) ∧ v = .non)
abbrev N_next_number : List Str := ["grid", "number", "many", "levels", "level", "state", "least"]
theorem sc_next_number : FnScope N_next_number ["grid", "number"] (defScope s_next_number) := ⟨rfl, rfl, rfl, by decide +kernel, rfl, by decide +kernel, by decide +kernel⟩
theorem hb_next_number : HB s_next_number "next_number" "next_number" ["grid", "number"] := fun _ _ _ _ _ _ us hl => match us, hl with | [_, _], _ => rfl

def spNext (C : Addr) (TT' : List NTab) : Sp := fun vs H Q _ => ∃ (a : Addr) (b m n : Nat) (g : Rows) (ms : List V) (mk F : Nat → Bool), vs = [.ref a, .int n] ∧ GridAt C H a b g ms ∧ MarksAre kB H ms mk m ∧ Canon b m g mk F ∧ 2 ≤ b ∧ b ≤ 16 ∧ m ≤ 200 ∧ 0 < n ∧ n < 2 ^ 3000 ∧ TabsN TT' H ∧
  ∀ v H', Kx H H' → TabsN TT' H' → NxtR F n (b ^ ((figs b n).length + m)) v → Q v H'
theorem g_next_number {f Pt C : Addr} {TT' : List NTab} (T : Bt mg) (c : GrC K C) (D : DfT K base mg "next_number" "next_number" s_next_number f Pt) (hTm : (Pt, nmAll) ∈ TT') (hTu : ∀ p ∈ TT', p.1 = Pt → p.2 = nmAll) (m : mg "next_number" = some (.ref f))
    (G1 : Fn P w K mg base CXN 2 "levels_for" ["number", "figures"] spLevFor) (G2 : Mt P w K mg base CXN 1 C "width" ["self"] (spWidth C)) (G3 : Fn P w K mg base CXN 3 "stretch_levels" ["grid", "of_mark", "joined", "many"] (spStrLev kB kB C P w K mg base 2)) (G4 : Fn P w K mg base CXN 2 "greater_stretches" ["grid", "number", "many"] (spGre C)) (G5 : Fn P w K mg base CXN 3 "least_within" ["grid", "levels", "level", "state", "least"] (spLeW C)) :
    Fn P w K mg base CXN 4 "next_number" ["grid", "number"] (spNext C TT') := by
  refine D.fn m sc_next_number hb_next_number (fun vs H Q E ⟨a, b, m, n, g, ms, mk, F, e, _⟩ => by rw [e]; rfl) fun cc A outer s H vs Q E TB hr ⟨a, b, m, n, g, ms, mk, F, e, hg, hms, hc, hb, hb2, hm5, hn, hn2, hT, k_⟩ => ?_
  subst e
  refine ⟨_, (pss_cons (ps_set (i := 2) sc_next_number.nd rfl (Or.inl rfl) (pe_op op_add (pe_fn G1 (hr.mono (by decide)) (by rfl) pass0 (pa_cons (pv 1) (pa_cons (pe_fldK (K := K) rfl (pv 0) rfl) pa_nil))) (pe_mt0 G2 c.cl (hr.mono (by decide)) (pv 0) pass0)))
    (pss_cons (ps_set (i := 3) sc_next_number.nd rfl (Or.inl rfl) (pe_fnT G3 (fun _ => rfl) ⟨rfl, rfl⟩ (hr.mono (by decide)) (by rfl) (pa_cons (pv 0) (pa_cons (pe_lamC TB rfl hTm (nm_206_34) hTu rfl (ndef_free (sc := defScope s_next_number) (fr := []) (by decide +kernel))) (pa_cons (pe_lamC TB rfl hTm (nm_206_53) hTu rfl (ndef_free (sc := defScope s_next_number) (fr := []) (by decide +kernel))) (pa_cons (pv 2) pa_nil))))))
    (pss_cons (ps_for PassesOwn.never rfl (pi_listK (K := K) rfl (pe_fn G4 (hr.mono (by decide)) (by rfl) pass0 (pa_cons (pv 0) (pa_cons (pv 1) (pa_cons (pv 2) pa_nil))))) (pg_tup rfl (pgs_cons (pg_name (i := 4) sc_next_number.nd rfl (Or.inl rfl)) (pgs_cons (pg_name (i := 5) sc_next_number.nd rfl (Or.inl rfl)) (pgs_cons (pg_name (i := 6) sc_next_number.nd rfl (Or.inl rfl)) pgs_nil)))) (pss_one (ps_if (pt_val (pe_ix (ix_listK (K := K) rfl) (pe_ix (ix_listK (K := K) rfl) (pv 3) (pv 4) (fun _ _ => rfl)) (pv 5) (fun _ _ => rfl))) (pss_one (ps_ret (pe_fn G5 (hr.mono (by decide)) (by rfl) pass0 (pa_cons (pv 0) (pa_cons (pv 3) (pa_cons (pv 4) (pa_cons (pv 5) (pa_cons (pv 6) pa_nil)))))))) pss_nil)))
    (pss_one (ps_ret pe_non))))), ?_⟩
  obtain ⟨dx, pg, pm, ha, hgr, hgm⟩ := id hg
  have wf := hc.met.wf
  have hL3 := figs_len_le hb hn2
  have hL0 := figs_len_pos hb hn
  obtain ⟨L, hL⟩ : ∃ L, (figs b n).length = L := ⟨_, rfl⟩
  rw [hL] at k_
  refine ⟨_, rfl, _, rfl, a, C, dx, _, _, rfl, ha, c.cl, c.nF, gr_F b pg pm, n, b, rfl, hb, hb2, hn2, fun H1 e1 => ?_⟩
  have ha1 := e1.at_ _ _ ha
  have hg1 := hg.kp e1.kp
  refine ⟨_, rfl, a, dx, _, rfl, ha1, gr_no b pg pm (by decide +kernel) (by decide +kernel) (by decide +kernel), a, b, m, g, ms, rfl, hg1, wf, _, _, rfl, rfl, ?_⟩
  have emany : (((figs b n).length : Nat) : Int) + (m : Int) = ((L + m : Nat) : Int) := by rw [hL]; omega
  dsimp only
  rw [emany]
  have hT1 := hT.ext e1.at_
  have hms1 := hms.keep fun b' ys h => e1.at_ b' _ h
  refine ⟨_, rfl, hT1, fun fs c1 H2 e2 d2 hT2 hfs0 hfs hc1 => ⟨hT2, fun fm c2 H3 e3 d3 hT3 hfm0 hfm hc2 => ⟨_, rfl, ?_⟩⟩⟩
  intro ob O hun
  have hnd1 : ndefB (defScope s_next_number) (scL [("mark", .local)]) [] = true := by decide +kernel
  have hnd2 : ndefB (defScope s_next_number) (scL [("one", .local), ("two", .local)]) [] = true := by decide +kernel
  have k13 : Kx H1 H3 := Kx.mk (e2.trans e3) fun a h => d2 a (d3 a h)
  have imm : ∀ a o, H1 a = some o → Sol o → trkC (ownC _ ob) H3 a = some o := fun a o h s => trk_imm hun a o (k13.kp.imm a o h s)
  refine ⟨a, fs, fm, b, m, L + m, g, ms, mk, (fun s => s), (fun x y => x || y), rfl, hg1.imm imm, hms1.keep fun b' ys h => imm _ _ h True.intro, wf, hb, hb2, by omega, by omega, by omega, ?_, ?_, fun p H' hp e hL' => ?_⟩
  · refine clo_own (fr := []) (js := []) O hun (e3 _ _ hfs cfo_ne) (e3 _ _ hc1 codeO_ne) rfl hnd1 rfl fun cs CC all => ?_
    exact run_idm ⟨rfl, rfl, rfl⟩ CC all
  · refine clo_own (fr := []) (js := []) O hun hfm hc2 rfl hnd2 rfl fun cs CC all => ?_
    exact run_or ⟨rfl, rfl, rfl⟩ CC all
  · obtain ⟨h1, h2, h3, h4⟩ := trk_end (k13) hT3 hun e
    have hlev : LevAt kB (untC (ownC _ ob) H') p (aLev g b mk) m (L + m) := hL'.imm (unt_imm h1)
    refine ⟨h1, ?_⟩
    generalize untC (ownC _ ob) H' = H4 at *
    have k04 : Kx H H4 := e1.kx.trans h2
    have hg4 := hg.kp k04.kp
    refine ⟨_, rfl, _, rfl, _, rfl, a, b, m, n, L + m, g, ms, rfl, hg4, hb, hb2, wf, hn, hn2, by omega, by omega, fun ps xs ts H5 hps e5 hxs htr htl hlv hlen => ?_⟩
    have hlev5 := hlev.sm e5
    refine ⟨ps, rfl, ⟨_, SqL.of hxs⟩, for_list (K := K) (a := ps) (xs := xs) (fun i σ H' => ∃ (lo : Nat) (o4 o5 o6 : Option V), σ = [some (.ref a), some (.int n), some (.int (L + m : Nat)), some (.ref p), o4, o5, o6] ∧ H' = H5 ∧ Tile g b lo (ts.drop i) (b ^ (L + m)) ∧ n + 1 ≤ lo ∧ ∀ y, n < y → y < lo → F y = false)
      ⟨n + 1, none, none, none, rfl, rfl, htl, Nat.le_refl _, fun y h1 h2 => by omega⟩ (fun i σ H' _ ⟨_, _, _, _, _, e, _⟩ => by rw [e]; exact SqL.of hxs) ?_ ?_⟩
    · rintro i v σ H6 hi ⟨lo, o4, o5, o6, rfl, rfl, htd, hlo, hno⟩
      obtain ⟨t, qt, ht, rfl, hqt⟩ := htr.at_ hi
      have htm := List.mem_of_getElem? ht
      have hil := (List.getElem?_eq_some_iff.mp ht).1
      rw [List.drop_eq_getElem_cons hil, (List.getElem?_eq_some_iff.mp ht).2] at htd
      obtain ⟨t1, ⟨qn, hqn, t3, t4⟩, t5⟩ := htd
      obtain ⟨z1, z2⟩ := wf.run hb qn hqn
      rw [← t4] at z1 z2
      obtain ⟨ls, ql, ys, u, g1, g2, g3, g4, g5⟩ := lev_get hlev5 (hlv t htm) z1 z2
      have hval : aLev g b mk t.1 t.2.1 = decide (0 < cw F lo (b ^ t.1)) := by rw [t4, aLev_any hb hc t.1 qn hqn, ← t3]
      have g5 : u = .bl (decide (0 < cw F lo (b ^ t.1))) := by rw [← hval]; exact g5
      subst g5
      refine ⟨qt, _, rfl, SqT.of hqt, rfl, _, _, rfl, _, _, rfl, _, _, rfl, rfl, ?_⟩
      refine ⟨_, rfl, _, rfl, p, _, _, _, rfl, rfl, SqL.of g1, atI_nat g2, _, rfl, ql, _, _, _, rfl, rfl, SqL.of g3, atI_nat g4, _, rfl, ?_⟩
      refine ifb (fun hpos => ?_) (fun hneg => ?_)
      · refine ⟨_, rfl, _, rfl, _, rfl, _, rfl, _, rfl, a, p, b, m, L + m, t.1, t.2.1, t.2.2, qn, g, ms, mk, F, rfl, hg4.kp e5.kp, hc, hb, hb2, hlev5, by omega, hlv t htm, hqn, by rw [t1]; exact t3, t4, by rw [t1]; exact hpos, fun x H7 e7 x1 x2 x3 x4 => ?_⟩
        rw [t1] at x1 x2 x4
        refine k_ _ H7 (k04.trans (e5.trans e7).kx) (h3.ext (e5.trans e7).at_) (.inl ⟨x, by omega, Nat.lt_of_lt_of_le x2 t5.le, x3, fun y y1 y2 => ?_, rfl⟩)
        by_cases hy : y < lo
        · exact hno y y1 hy
        · exact x4 y (by omega) y2
      · refine ⟨lo + b ^ t.1, _, _, _, rfl, rfl, t5, by omega, fun y y1 y2 => ?_⟩
        by_cases hy : y < lo
        · exact hno y y1 hy
        · cases hF : F y with
          | false => rfl
          | true => exact absurd (cw_pos.mpr ⟨y - lo, by omega, by rw [Nat.add_sub_cancel' (show lo ≤ y by omega)]; exact hF⟩) hneg
    · rintro σ H6 ⟨lo, o4, o5, o6, rfl, rfl, htd, hlo, hno⟩
      rw [htr.1, List.drop_length] at htd
      have htd : lo = b ^ (L + m) := htd
      refine k_ _ _ (k04.trans e5.kx) (h3.ext e5.at_) (.inr ⟨fun y hy => ?_, rfl⟩)
      cases hF : F y with
      | false => rfl
      | true =>
        obtain ⟨z, z1, z2, z3⟩ := pump hb hc (L := L) (n := n) (by rw [← hL]; exact figs_lt_pow hb n) ⟨y, hy, hF⟩
        rw [hno z z1 (by omega)] at z3
        cases z3
abbrev N_Kind_after : List Str := ["self", "number"]
theorem sc_Kind_after : FnScope N_Kind_after ["self", "number"] (defScope s_Kind_after) := ⟨rfl, rfl, rfl, by decide +kernel, rfl, by decide +kernel, by decide +kernel⟩
theorem hb_Kind_after : HB s_Kind_after "after" "Kind.after" ["self", "number"] := fun _ _ _ _ _ _ us hl => match us, hl with | [_, _], _ => rfl

def spKAfter (CG C : Addr) (TT' : List NTab) : Sp := fun vs H Q _ => ∃ (a : Addr) (b n : Nat) (F : Nat → Bool), vs = [.ref a, .int n] ∧ KindAt CG C H a b F ∧ 0 < n ∧ n ≤ N40 ∧ TabsN TT' H ∧ ∀ v H', Kx H H' → TabsN TT' H' → (∃ (m : Nat) (g : Rows) (mk : Nat → Bool), Canon b m g mk F ∧ NxtR F n (b ^ ((figs b n).length + m)) v) → Q v H'
theorem g_Kafter {f CG C : Addr} {TT' : List NTab} (c : KiC K mg CG C) (D : Df K "after" "Kind.after" s_Kind_after f) (m : Meth K C "after" f) (G1 : Fn P w K mg base CXN 3 "check_number" ["number"] spCheckNum) (G2 : Fn P w K mg base CXN 4 "next_number" ["grid", "number"] (spNext CG TT')) : MtK P w K mg base CXN 5 C "after" "Kind.after" s_Kind_after ["self", "number"] (spKAfter CG C TT') := by
  refine D.mtK m sc_Kind_after hb_Kind_after (fun vs H Q E ⟨a, b, n, F, e, _⟩ => by rw [e]; rfl) fun cdv A outer s H vs Q E hr ⟨a, b, n, F, e, hk, h1, h2, hT, k_⟩ => ?_
  subst e
  refine ⟨_, (pss_cons (ps_expr (pe_fn G1 (hr.mono (by decide)) (by rfl) pass0 (pa_cons (pv 1) pa_nil)))
    (pss_one (ps_ret (pe_fn G2 hr (by rfl) pass0 (pa_cons (pe_fldK (K := K) rfl (pv 0) rfl) (pa_cons (pv 1) pa_nil)))))), ?_⟩
  obtain ⟨dx, pg, m1, g1, ms1, mk1, hx, hg1, hc1, hm1, hl1, hb, hb2⟩ := id hk
  exact ⟨_, rfl, n, rfl, h1, h2, _, rfl, a, C, dx, _, _, rfl, hx, c.cl, c.nG, lk_eq _ _ _, _, rfl, pg, b, m1, n, g1, ms1, mk1, F, rfl, hg1, hm1, hc1, hb, hb2, by omega, h1, Nat.lt_of_le_of_lt h2 N40_lt3, hT, fun v H' kx hT' r => k_ v H' kx hT' ⟨m1, g1, mk1, hc1, r⟩⟩
theorem hbm_Kind_after : HBM s_Kind_after "after" "Kind.after" ["self", "number"] := fun _ _ _ _ _ _ _ us hl => match us, hl with | [_], _ => rfl
end
end Bz
end
section
set_option Elab.async false
set_option linter.all false
set_option maxRecDepth 100000
set_option maxHeartbeats 4000000
namespace Bz
open PySem PySem.Spec PyProof.Rows L2 LamX NdefX
section
variable {P : Program} {w : World} {K : PySem.W.Frag} {mg : Str → Option Value} {base : Heap}
abbrev N_law_pool : List Str := ["bag", "root", "most"]
theorem sc_law_pool : FnScope N_law_pool ["bag", "root", "most"] (defScope s_law_pool) := ⟨rfl, rfl, rfl, by decide +kernel, rfl, by decide +kernel, by decide +kernel⟩
theorem hb_law_pool : HB s_law_pool "_law_pool" "_law_pool" ["bag", "root", "most"] := fun _ _ _ _ _ _ us hl => match us, hl with | [_, _, _], _ => rfl

def spPoolM : Sp := fun vs H Q _ => ∃ (a : Addr) (b m n : Nat), vs = [.ref a, .int b, .int m] ∧ BagAt H a (n + 3) ∧ 2 ≤ b ∧ b ≤ 16 ∧ 2 ≤ m ∧ m ≤ 12 ∧ ∀ (p : Addr) (q : Pool) H', H' p = some (.tup q.vals) → H p = none → q.Good b → q.s = 2 → q.d ≤ m → Kz a H H' → BagAt H' a n → Q (.ref p) H'
theorem g_law_poolM {f : Addr} (T : Bt mg) (D : Df K "_law_pool" "_law_pool" s_law_pool f) (m : mg "_law_pool" = some (.ref f)) (G1 : Fn P w K mg base CXN 1 "_law_draw" ["bag", "many"] spDraw) : Fn P w K mg base CXN 2 "_law_pool" ["bag", "root", "most"] spPoolM := by
  refine D.fn m sc_law_pool hb_law_pool (fun vs H Q E ⟨a, b, m, n, e, _⟩ => by rw [e]; rfl) fun cdv A outer s H vs Q E hr ⟨a, b, m, n, e, hb, h1, h2, m1, m2, k_⟩ => ?_
  subst e
  refine ⟨_, (pss_one (ps_ret (pe_tup (pa_cons (pe_op op_add pe_int (pe_fn G1 hr (by rfl) pass0 (pa_cons (pv 0) (pa_cons (pe_op op_sub (pv 2) pe_int) pa_nil)))) (pa_cons pe_int (pa_cons (pe_fn G1 hr (by rfl) pass0 (pa_cons (pv 0) (pa_cons (pv 1) pa_nil))) (pa_cons (pe_fn G1 hr (by rfl) pass0 (pa_cons (pv 0) (pa_cons (pv 1) pa_nil))) pa_nil))))))), ?_⟩
  have b1000 : (16 : Nat) < 2 ^ 1000 := by decide +kernel
  have lt1000 : ∀ x : Nat, x ≤ 16 → x < 2 ^ 1000 := fun x h => Nat.lt_of_le_of_lt h b1000
  refine ⟨_, rfl, _, rfl, _, _, rfl, rfl, a, m - 1, n + 2, by show [V.ref a, V.int ((m : Int) - 1)] = _; rw [show (m : Int) - 1 = ((m - 1 : Nat) : Int) by omega], hb, by omega, lt1000 _ (by omega), fun r1 H1 hr1 kz1 bg1 => ⟨_, _, rfl, rfl, ?_⟩⟩
  refine ⟨_, rfl, _, rfl, a, b, n + 1, rfl, bg1, by omega, lt1000 _ h2, fun r2 H2 hr2 kz2 bg2 => ?_⟩
  refine ⟨_, rfl, _, rfl, a, b, n, rfl, bg2, by omega, lt1000 _ h2, fun r3 H3 hr3 kz3 bg3 => ⟨by show 4 ≤ sizeLine; decide, fun p hp => ?_⟩⟩
  obtain ⟨np, fp, cp, sp, gp⟩ := kz_new (u := .tup (Pool.vals ⟨2 + r1, 2, r2, r3⟩)) (kz1.trans (kz2.trans kz3)) bg3 hp
  have e : (2 : Int) + (r1 : Int) = ((2 + r1 : Nat) : Int) := by omega
  dsimp only
  rw [e]
  exact k_ p ⟨2 + r1, 2, r2, r3⟩ _ upd_same fp ⟨by show 2 ≤ 2 + r1; omega, by show 2 + r1 ≤ 12; omega, Nat.le_refl _, by show 2 ≤ 12; omega, hr2, hr3, by show (2 + r1) * 2 * 4 ≤ 200; omega⟩ rfl (by show 2 + r1 ≤ m; omega) cp gp
end
/-- a kind of a pool's tests is no wider than the pool tells -/
theorem Pool.size {q : Pool} {b : Nat} (G : q.Good b) (hb : 2 ≤ b) {t : LT} (h : t.inP q) : ∀ m' g' mk', Canon b m' g' mk' (t.F b) → m' ≤ q.d * q.s * 4 := fun m' g' mk' c => by
  rw [← Pool.Ul_len]
  exact c.le_of hb (q.φ b) q.Ul (fun n _ => Pool.φ_mem G n) (fun n k hn hk e f hf => Pool.φ_step hb n k hn hk e f hf) (fun n k _ _ e => LT.F_φ e h)
end Bz
end
section
set_option maxHeartbeats 400000
set_option autoImplicit false
set_option linter.unusedVariables false
namespace Bz
/-! ### counts that add up -/
theorem cb_or (F G : Nat → Bool) : ∀ n, cb (fun k => F k || G k) n + cb (fun k => F k && G k) n = cb F n + cb G n := by
  intro n
  induction n with
  | zero => rfl
  | succ n ih =>
    show cb (fun k => F k || G k) n + (if 0 < n ∧ (F n || G n) = true then 1 else 0) + (cb (fun k => F k && G k) n + (if 0 < n ∧ (F n && G n) = true then 1 else 0)) = cb F n + (if 0 < n ∧ F n = true then 1 else 0) + (cb G n + (if 0 < n ∧ G n = true then 1 else 0))
    by_cases h0 : 0 < n
    · cases F n <;> cases G n <;> simp [h0] <;> omega
    · simp [h0]; exact ih
theorem cb_xor (F G : Nat → Bool) : ∀ n, cb (fun k => F k != G k) n + 2 * cb (fun k => F k && G k) n = cb F n + cb G n := by
  intro n
  induction n with
  | zero => rfl
  | succ n ih =>
    show cb (fun k => F k != G k) n + (if 0 < n ∧ (F n != G n) = true then 1 else 0) + 2 * (cb (fun k => F k && G k) n + (if 0 < n ∧ (F n && G n) = true then 1 else 0)) = cb F n + (if 0 < n ∧ F n = true then 1 else 0) + (cb G n + (if 0 < n ∧ G n = true then 1 else 0))
    by_cases h0 : 0 < n
    · cases F n <;> cases G n <;> simp [h0] <;> omega
    · simp [h0]; exact ih
theorem cb_not (F : Nat → Bool) : ∀ n, cb (fun k => !F k) (n + 1) + cb F (n + 1) = n := by
  intro n
  induction n with
  | zero => simp [cb]
  | succ n ih =>
    show cb (fun k => !F k) (n + 1) + (if 0 < n + 1 ∧ (!F (n + 1)) = true then 1 else 0) + (cb F (n + 1) + (if 0 < n + 1 ∧ F (n + 1) = true then 1 else 0)) = n + 1
    cases F (n + 1) <;> simp <;> omega
/-! ### numbers by a remainder -/
/-- left, left + d, .. -/
structure ByR (d left : Nat) (F : Nat → Bool) : Prop where
  d1 : 1 ≤ d
  l1 : 1 ≤ left
  ld : left ≤ d
  is : ∀ n, 0 < n → (F n = true ↔ d ∣ n + d - left)
theorem ByR.count {d left : Nat} {F : Nat → Bool} (h : ByR d left F) : ∀ n, cb F (n + 1) = (n + d - left) / d := by
  have h1 := h.d1; have h2 := h.l1; have h3 := h.ld
  intro n
  induction n with
  | zero =>
    rw [Nat.div_eq_of_lt (by omega)]
    simp [cb]
  | succ n ih =>
    show cb F (n + 1) + (if 0 < n + 1 ∧ F (n + 1) = true then 1 else 0) = _
    rw [ih, show n + 1 + d - left = (n + d - left) + 1 by omega, Nat.succ_div]
    congr 1
    have := h.is (n + 1) (by omega)
    rw [show n + 1 + d - left = (n + d - left) + 1 by omega] at this
    by_cases hd : d ∣ (n + d - left) + 1
    · rw [if_pos hd, if_pos ⟨by omega, this.mpr hd⟩]
    · rw [if_neg hd, if_neg fun z => hd (this.mp z.2)]
theorem ByR.counted {d left : Nat} {F : Nat → Bool} (h : ByR d left F) (n : Nat) : cb F (n + 1) = if left ≤ n then (n - left) / d + 1 else 0 := by
  have h1 := h.d1; have h2 := h.l1; have h3 := h.ld
  rw [h.count]
  by_cases hl : left ≤ n
  · rw [if_pos hl, show n + d - left = (n - left) + d by omega, Nat.add_div_right _ (by omega)]
  · rw [if_neg hl]; exact Nat.div_eq_of_lt (by omega)
/-- the k-th from 0 on -/
theorem ByR.member {d left : Nat} {F : Nat → Bool} (h : ByR d left F) (k : Nat) : F (left + d * k) = true ∧ cb F (left + d * k + 1) = k + 1 := by
  have h1 := h.d1; have h2 := h.l1; have h3 := h.ld
  have e : left + d * k + d - left = d * (k + 1) := by rw [Nat.mul_succ]; omega
  constructor
  · rw [h.is _ (by omega), e]; exact Nat.dvd_mul_right _ _
  · rw [h.count, e]; exact Nat.mul_div_cancel_left _ (by omega)
/-- the first behind n is the one counted -/
theorem ByR.next {d left n : Nat} {F : Nat → Bool} (h : ByR d left F) : n < left + d * cb F (n + 1) ∧ ∀ y, n < y → y < left + d * cb F (n + 1) → F y = false := by
  have h1 := h.d1; have h2 := h.l1; have h3 := h.ld
  obtain ⟨c, hc⟩ : ∃ c, cb F (n + 1) = c := ⟨_, rfl⟩
  obtain ⟨m1, m2⟩ := h.member c
  rw [hc]
  have hlt : n < left + d * c := by
    apply Classical.byContradiction
    intro z
    have := cb_mono F (show left + d * c + 1 ≤ n + 1 by omega)
    omega
  refine ⟨hlt, fun y y1 y2 => ?_⟩
  cases hF : F y with
  | false => rfl
  | true =>
    exfalso
    have a1 : cb F (y + 1) = cb F y + 1 := by
      show cb F y + (if 0 < y ∧ F y = true then 1 else 0) = _
      rw [if_pos ⟨by omega, hF⟩]
    have a2 := cb_mono F (show n + 1 ≤ y by omega)
    obtain ⟨z, hz⟩ : ∃ z, left + d * c = z + 1 := ⟨left + d * c - 1, by omega⟩
    have a3 := cb_mono F (show y + 1 ≤ left + d * c by omega)
    have a4 : cb F (left + d * c + 1) = cb F (left + d * c) + 1 := by
      show cb F (left + d * c) + (if 0 < left + d * c ∧ F (left + d * c) = true then 1 else 0) = _
      rw [if_pos ⟨by omega, m1⟩]
    omega
theorem byR_rest {d r : Nat} (hd : 1 ≤ d) (hr : r < d) {F : Nat → Bool} (h : ∀ n, 0 < n → F n = decide (n % d = r)) : ByR d (if r = 0 then d else r) F := by
  refine ⟨hd, by split <;> omega, by split <;> omega, fun n hn => ?_⟩
  rw [h n hn, decide_eq_true_iff, Nat.dvd_iff_mod_eq_zero]
  by_cases h0 : r = 0
  · rw [if_pos h0, h0, Nat.add_sub_cancel]
  · rw [if_neg h0]
    obtain ⟨q, hq⟩ : ∃ q, n / d = q := ⟨_, rfl⟩
    have e := Nat.div_add_mod n d
    have hm := Nat.mod_lt n (show 0 < d by omega)
    constructor
    · intro z
      rw [z] at e
      rw [show n + d - r = d * (n / d + 1) by rw [Nat.mul_succ]; omega]
      exact Nat.mul_mod_right _ _
    · intro z
      have e2 : n + d - r = d * (n / d) + (n % d + d - r) := by omega
      rw [e2, Nat.mul_add_mod] at z
      by_cases h1 : n % d + d - r < d
      · rw [Nat.mod_eq_of_lt h1] at z; omega
      · rw [show n % d + d - r = (n % d - r) + d by omega, Nat.add_mod_right, Nat.mod_eq_of_lt (by omega)] at z
        omega
/-- members among so many numbers, listed -/
def lsIn (F : Nat → Bool) (lo k : Nat) : List Nat := ((List.range k).map (lo + ·)).filter F
theorem lsIn_succ (F : Nat → Bool) (lo k : Nat) : lsIn F lo (k + 1) = lsIn F lo k ++ if F (lo + k) = true then [lo + k] else [] := by
  unfold lsIn
  rw [List.range_succ, List.map_append, List.filter_append, List.map_cons, List.map_nil]
  congr 1
  by_cases h : F (lo + k) = true
  · rw [if_pos h, List.filter_cons_of_pos h]; rfl
  · rw [if_neg h, List.filter_cons_of_neg h]; rfl
theorem lsIn_count {F : Nat → Bool} {lo : Nat} (h : 0 < lo) : ∀ k, cb F lo + (lsIn F lo k).length = cb F (lo + k) := by
  intro k
  induction k with
  | zero => rfl
  | succ k ih =>
    rw [lsIn_succ, List.length_append, ← Nat.add_assoc, ih]
    show _ = cb F (lo + k) + (if 0 < lo + k ∧ F (lo + k) = true then 1 else 0)
    by_cases hF : F (lo + k) = true
    · rw [if_pos hF, if_pos ⟨by omega, hF⟩]; rfl
    · rw [if_neg hF, if_neg fun z => hF z.2]; rfl
theorem lsIn_mem {F : Nat → Bool} {lo k y : Nat} : y ∈ lsIn F lo k ↔ lo ≤ y ∧ y < lo + k ∧ F y = true := by
  unfold lsIn
  rw [List.mem_filter, List.mem_map]
  constructor
  · rintro ⟨⟨x, hx, rfl⟩, h⟩
    have := List.mem_range.mp hx
    exact ⟨by omega, by omega, h⟩
  · rintro ⟨h1, h2, h3⟩
    exact ⟨⟨y - lo, List.mem_range.mpr (by omega), by omega⟩, h3⟩
theorem lsIn_sorted (F : Nat → Bool) (lo k : Nat) : (lsIn F lo k).Pairwise (· < ·) := by
  unfold lsIn
  refine List.Pairwise.filter _ ?_
  rw [List.pairwise_map]
  exact List.Pairwise.imp (fun h => Nat.add_lt_add_left h lo) List.pairwise_lt_range
end Bz
end
section
set_option Elab.async false
set_option linter.all false
set_option maxRecDepth 100000
set_option maxHeartbeats 2000000
namespace Bz
open PySem PySem.Spec PyProof.Rows PyProof L2 LamX NdefX
/-- great ranges: the same things come -/
theorem turn_longC {P : Program} {w : World} {K : PySem.W.Frag} {tg : Expr} (it : Addr) (lo c : Int) (n : Nat) : Turn P w K tg (Itc lo c n) [it] it (fun i h => IsLongIter h it (lo + (i : Nat) * c) ((n : Int) - (i : Nat)) c) where
  mem := by simp
  obj := fun i h st b hb => by
    have e : b = it := by simpa using hb
    subst e
    exact ⟨_, st, fun v z => nomatch z⟩
  keep := fun i h h' st k => k it (by simp) _ st
  item := by
    intro X hP hw hK hc i pins s σ H E I hf st hg
    subst hP hw hK
    obtain ⟨f0, f1, f2, f3, f4, f5⟩ := hf it (by simp)
    have W := Walks.longrange (prog := X.prog) (w := X.w) (I.ok.hd hc) it lo c n
    refine W.item i s _ _ hg st fun v h' tk hv st' kk => ?_
    obtain ⟨t, rfl⟩ := hv
    have I1 : Inv X pins σ H { s with heap := h', toks := tk } := I.turned (fun b o hb e => kk b o (by simpa using hb) e) f0 f1 f3 f4 f5
    exact ⟨_, rfl, go_of (s := { s with heap := h', toks := tk }) (n := "longrange_iterator") st' rfl rfl (by decide) ⟨.int (lo + (i : Nat) * c), H, I1, ⟨t, rfl⟩, ⟨rfl, rfl⟩, st', fun b hb => (hf b hb).1⟩⟩
  done := by
    intro X hP hw hK hc i pins s σ H E I hf st hg
    subst hP hw hK
    obtain ⟨f0, f1, f2, f3, f4, f5⟩ := hf it (by simp)
    exact wpAny_pyNext_long_end (I.ok.hd hc) st (by have : n ≤ i := hg; omega) fun h' eb => ⟨rfl, I.turned (t' := s.toks) (fun b o hb e => eb b o hb e) f0 f1 f3 f4 f5⟩
  self := fun A i s Q E st h => wpAny_pyIter_longiter st h
def iRng2W (ta : TA) : TI := fun σ H R => ta σ H fun vs H1 => ∃ i j : Int, vs = [.int i, .int j] ∧ R (Itc i 1 (j - i).toNat) H1
/-- range(i, j), of any size -/
theorem pi_range2W {X : Cx} {tg a b : Expr} {ta : TA} {p pos : Pos} (hg : Gl X "range") (hm : X.mg "range" = none) (ha : PA X [a, b] ta) (hs : starEach [a, b] X.env = [(false, eval a X.env), (false, eval b X.env)] := by rfl) (hs2 : starEach [b] X.env = [(false, eval b X.env)] := by rfl) :
    PI X tg (.Call (.Name "range" p) [a, b] [] pos) (iRng2W ta) := by
  refine ⟨fun pins s σ H R I h => ?_⟩
  refine Call_ (ld_blt I hg hm boot_range (PyProof.Rows.callWith_type1 (thn (ha.run pos pins s σ H _ I h) fun us s1 ⟨vs, H1, I1, r1, q1⟩ => ?_) (by rw [hs, hs2]) (by rw [hs2]; rfl)))
  obtain ⟨i, j, e, q⟩ := q1
  subst e
  cases r1 with
  | cons r rr =>
    cases rr with
    | cons r' rr =>
      cases rr
      obtain ⟨t, rfl⟩ := r
      obtain ⟨t', rfl⟩ := r'
      refine call_range_2 ?_
      have e1 : i + ((0 : Nat) : Int) * 1 = i := by simp
      have e2 : (((j - i).toNat : Nat) : Int) - ((0 : Nat) : Int) = Builtin.Range.rangeSize i j 1 := by rw [rangeSize_nat]; simp
      have I2 : Inv X pins σ H1 { s1 with heap := s1.heap.push { cls := .type "range", data := .fields #[.int i t, .int j t', .int 1 s1.toks] }, toks := s1.toks + 1 } := I1.kept (t' := s1.toks + 1) fun b o e => Heap.get?_push_of_some _ e
      by_cases hsm : Builtin.Range.small i j 1 = true
      · refine wpAny_pyIter_range (IsRange.new ..) hsm ?_
        refine pi_one (tk := s1.toks + 1) I2 _ (turn_rangeC _ i 1 (j - i).toNat) ?_ q
        show IsRangeIter _ _ (i + ((0 : Nat) : Int) * 1) ((((j - i).toNat : Nat) : Int) - ((0 : Nat) : Int)) 1
        rw [e1, e2]
        exact Heap.get?_push_size _ rfl
      · refine wpAny_pyIter_longrange (IsRange.new ..) (by simpa using hsm) ?_
        refine pi_one (tk := s1.toks + 1) I2 _ (turn_longC _ i 1 (j - i).toNat) ?_ q
        show IsLongIter _ _ (i + ((0 : Nat) : Int) * 1) ((((j - i).toNat : Nat) : Int) - ((0 : Nat) : Int)) 1
        rw [e1, e2]
        exact Heap.get?_push_size _ rfl
end Bz
end
section
set_option Elab.async false
set_option linter.all false
set_option maxRecDepth 100000
set_option maxHeartbeats 8000000
namespace Bz
open PySem PySem.Spec PyProof.Rows L2 LamX NdefX
theorem ByR.least {d left : Nat} {F : Nat → Bool} (h : ByR d left F) {v : V} (hv : LeastR F v) : v = .int (left : Nat) := by
  have h1 := h.d1; have h2 := h.l1; have h3 := h.ld
  have m0 := (h.member 0).1
  rw [Nat.mul_zero, Nat.add_zero] at m0
  rcases hv with ⟨x, x1, x2, x3, rfl⟩ | ⟨x1, rfl⟩
  · have hle := x3 left (by omega) m0
    have hx : left ≤ x := by
      apply Classical.byContradiction
      intro z
      have hc := h.counted x
      rw [if_neg z] at hc
      have : cb F (x + 1) = cb F x + 1 := by
        show cb F x + (if 0 < x ∧ F x = true then 1 else 0) = _
        rw [if_pos ⟨x1, x2⟩]
      omega
    rw [show x = left by omega]
  · rw [x1 left (by omega)] at m0; cases m0
section
variable {P : Program} {w : World} {K : PySem.W.Frag} {mg : Str → Option Value} {base : Heap}
abbrev N_law_add_up : List Str := ["one", "two", "n", "many", "more", "shared", "apart"]
theorem sc_law_add_up : FnScope N_law_add_up ["one", "two", "n"] (defScope s_law_add_up) := ⟨rfl, rfl, rfl, by decide +kernel, rfl, by decide +kernel, by decide +kernel⟩
theorem hb_law_add_up : HB s_law_add_up "_law_add_up" "_law_add_up" ["one", "two", "n"] := fun _ _ _ _ _ _ us hl => match us, hl with | [_, _, _], _ => rfl

def spAddUp (CG C : Addr) (TT' : List NTab) : Sp := fun vs H Q _ => ∃ (x y : Addr) (b n : Nat) (F F' : Nat → Bool), vs = [.ref x, .ref y, .int n] ∧ KindAt CG C H x b F ∧ KindAt CG C H y b F' ∧ 0 < n ∧ n ≤ N40 ∧
  (∀ m' g' mk', Canon b m' g' mk' (fun n => F n && F' n) → m' ≤ 200) ∧ (∀ m' g' mk', Canon b m' g' mk' (fun n => F n || F' n) → m' ≤ 200) ∧ (∀ m' g' mk', Canon b m' g' mk' (fun n => F n != F' n) → m' ≤ 200) ∧ TabsN TT' H ∧ ∀ H', Kx H H' → TabsN TT' H' → Q (.bl true) H'
theorem g_law_add_up {f CG C : Addr} {TT' : List NTab} (T : Bt mg) (c : KiC K mg CG C) (O : KOps P w K mg base CG C) (D : Df K "_law_add_up" "_law_add_up" s_law_add_up f) (m : mg "_law_add_up" = some (.ref f)) (G1 : Fn P w K mg base CXN 1 "_law_is" ["found", "due"] spLIs)
    (G2 : MtK P w K mg base CXN 6 C "count" "Kind.count" s_Kind_count ["self", "number"] (spKCount CG C TT')) : Fn P w K mg base CXN 7 "_law_add_up" ["one", "two", "n"] (spAddUp CG C TT') := by
  refine D.fn m sc_law_add_up hb_law_add_up (fun vs H Q E ⟨x, y, b, n, F, F', e, _⟩ => by rw [e]; rfl) fun cdv A outer s H vs Q E hr ⟨x, y, b, n, F, F', e, kx, ky, hn, hn4, w1, w2, w3, hT, k_⟩ => ?_
  subst e
  have hu64 := hr.units
  have hu := hu_of hr
  refine ⟨_, (pss_cons (ps_par (i := 3) (j := 4) (by rfl) sc_law_add_up.nd rfl rfl (by decide) rfl rfl (pa_cons (pe_mt G2.mt c.cl (hr.mono (by decide)) (pv 0) pass0 (pa_cons (pv 2) pa_nil)) (pa_cons (pe_mt G2.mt c.cl (hr.mono (by decide)) (pv 1) pass0 (pa_cons (pv 2) pa_nil)) pa_nil)) (by rfl))
    (pss_cons (ps_par (i := 5) (j := 6) (by rfl) sc_law_add_up.nd rfl rfl (by decide) rfl rfl (pa_cons (pe_mt G2.mt c.cl (hr.mono (by decide)) (pe_op (op_ownBin (op := .BitAnd) O.sf O.and (hr.mono (by decide)) pass0) (pv 0) (pv 1)) pass0 (pa_cons (pv 2) pa_nil)) (pa_cons (pe_mt G2.mt c.cl (hr.mono (by decide)) (pe_op (op_ownBin (op := .BitXor) O.sf O.xor (hr.mono (by decide)) pass0) (pv 0) (pv 1)) pass0 (pa_cons (pv 2) pa_nil)) pa_nil)) (by rfl))
    (pss_cons (ps_if (PW.pt (pw_or (pt_not (pt_val (pe_fn G1 (hr.mono (by decide)) (by rfl) pass0 (pa_cons (pe_mt G2.mt c.cl (hr.mono (by decide)) (pe_op (op_ownBin (op := .BitOr) O.sf O.or (hr.mono (by decide)) pass0) (pv 0) (pv 1)) pass0 (pa_cons (pv 2) pa_nil)) (pa_cons (pe_op op_sub (pe_op op_add (pv 3) (pv 4)) (pv 5)) pa_nil))))) (pw_or1 (pt_not (pt_val (pe_fn G1 (hr.mono (by decide)) (by rfl) pass0 (pa_cons (pv 6) (pa_cons (pe_op op_sub (pe_op op_add (pv 3) (pv 4)) (pe_op op_mulW pe_int (pv 5))) pa_nil)))))))) (pss_one (ps_ret pe_bl)) pss_nil)
    (pss_one (ps_ret (pe_and (pe_fn G1 (hr.mono (by decide)) (by rfl) pass0 (pa_cons (pe_mt G2.mt c.cl (hr.mono (by decide)) (pe_un (un_ownInv O.inv (hr.mono (by decide)) pass0) (pv 0)) pass0 (pa_cons (pv 2) pa_nil)) (pa_cons (pe_op op_sub (pv 2) (pv 3)) pa_nil))) (pe_and (pe_fn G1 (hr.mono (by decide)) (by rfl) pass0 (pa_cons (pe_mt G2.mt c.cl (hr.mono (by decide)) (pe_un (un_ownInv O.inv (hr.mono (by decide)) pass0) (pv 1)) pass0 (pa_cons (pv 2) pa_nil)) (pa_cons (pe_op op_sub (pv 2) (pv 4)) pa_nil))) (pe_one (pe_chain op_le op_le pe_int (pv 3) (pv 2)))))))))), ?_⟩
  have cl' : ∀ z : V, List.lookup ("count" : Str) [(("grid" : Str), z)] = none := fun z => by rw [lk_ne (by decide +kernel)] <;> rfl
  have hor := cb_or F F' (n + 1)
  have hxor := cb_xor F F' (n + 1)
  have hn1 := cb_not F n
  have hn2 := cb_not F' n
  obtain ⟨A1, hA1⟩ : ∃ A1, cb F (n + 1) = A1 := ⟨_, rfl⟩
  obtain ⟨A2, hA2⟩ : ∃ A2, cb F' (n + 1) = A2 := ⟨_, rfl⟩
  obtain ⟨B1, hB1⟩ : ∃ B1, cb (fun k => F k && F' k) (n + 1) = B1 := ⟨_, rfl⟩
  obtain ⟨B2, hB2⟩ : ∃ B2, cb (fun k => F k || F' k) (n + 1) = B2 := ⟨_, rfl⟩
  obtain ⟨B3, hB3⟩ : ∃ B3, cb (fun k => F k != F' k) (n + 1) = B3 := ⟨_, rfl⟩
  obtain ⟨B4, hB4⟩ : ∃ B4, cb (fun k => !F k) (n + 1) = B4 := ⟨_, rfl⟩
  obtain ⟨B5, hB5⟩ : ∃ B5, cb (fun k => !F' k) (n + 1) = B5 := ⟨_, rfl⟩
  rw [hA1, hA2, hB1, hB2] at hor
  rw [hA1, hA2, hB1, hB3] at hxor
  rw [hA1, hB4] at hn1
  rw [hA2, hB5] at hn2
  have hA1n : A1 ≤ N40 := by omega
  have ins : ∀ {H : Hp} {z : Addr} {F : Nat → Bool}, KindAt CG C H z b F → ∃ dz pg, H z = some (.ins C dz [("grid", .ref pg)]) := fun h => let ⟨d, p, _, _, _, _, q, _⟩ := h; ⟨d, p, q⟩
  obtain ⟨dx, pgx, hx⟩ := ins kx
  obtain ⟨dy, pgy, hy⟩ := ins ky
  refine ⟨_, rfl, x, dx, _, rfl, hx, cl' _, _, rfl, x, b, n, F, rfl, kx, hn, hn4, hT, fun H1 e1 hT1 => ?_⟩
  rw [hA1]
  refine ⟨_, rfl, y, dy, _, rfl, e1.kp.ins hy, cl' _, _, rfl, y, b, n, F', rfl, ky.kp e1.kp, hn, hn4, hT1, fun H2 e2 hT2 => ⟨_, _, rfl, ?_⟩⟩
  rw [hA2]
  have e12 := e1.trans e2
  refine ⟨_, rfl, _, rfl, bin_at (kx.kp e12.kp) (ky.kp e12.kp) w1 fun z3 H3 _ e3 kz3 => ?_⟩
  obtain ⟨d3, p3, hz3⟩ := ins kz3
  refine ⟨z3, d3, _, rfl, hz3, cl' _, _, rfl, z3, b, n, _, rfl, kz3, hn, hn4, hT2.ext e3.at_, fun H4 e4 hT4 => ?_⟩
  rw [hB1]
  have e14 := e12.trans (e3.kx.trans e4)
  refine ⟨_, rfl, _, rfl, bin_at (kx.kp e14.kp) (ky.kp e14.kp) w3 fun z5 H5 _ e5 kz5 => ?_⟩
  obtain ⟨d5, p5, hz5⟩ := ins kz5
  refine ⟨z5, d5, _, rfl, hz5, cl' _, _, rfl, z5, b, n, _, rfl, kz5, hn, hn4, hT4.ext e5.at_, fun H6 e6 hT6 => ⟨_, _, rfl, ?_⟩⟩
  rw [hB3]
  have e16 := e14.trans (e5.kx.trans e6)
  refine ⟨_, rfl, _, rfl, bin_at (kx.kp e16.kp) (ky.kp e16.kp) w2 fun z7 H7 _ e7 kz7 => ?_⟩
  obtain ⟨d7, p7, hz7⟩ := ins kz7
  refine ⟨z7, d7, _, rfl, hz7, cl' _, _, rfl, z7, b, n, _, rfl, kz7, hn, hn4, hT6.ext e7.at_, fun H8 e8 hT8 => ?_⟩
  rw [hB2]
  have e18 := e16.trans (e7.kx.trans e8)
  refine ⟨_, rfl, _, rfl, _, _, rfl, rfl, _, rfl, _, _, rfl, rfl, _, _, rfl, .inl ⟨_, rfl⟩, .inl ⟨_, rfl⟩, ?_⟩
  rw [decide_eq_true (congrArg V.int (show ((B2 : Nat) : Int) = (A1 : Int) + (A2 : Int) - (B1 : Int) by omega))]
  refine ⟨true, rfl, iteF ?_⟩
  refine ⟨_, rfl, _, rfl, _, rfl, _, _, rfl, rfl, _, rfl, _, _, rfl, rfl, wide_mul (a := 10) (b := 200) (by decide) (by
    rw [Int.natAbs_natCast]
    exact Nat.lt_of_le_of_lt (show B1 ≤ N40 by omega) (Nat.lt_of_lt_of_le N40_lt (Nat.pow_le_pow_right (by decide) (by decide)))) (by decide) (by decide) (by decide), _, _, rfl, rfl, _, _, rfl, .inl ⟨_, rfl⟩, .inl ⟨_, rfl⟩, ?_⟩
  rw [decide_eq_true (congrArg V.int (show ((B3 : Nat) : Int) = (A1 : Int) + (A2 : Int) - 2 * (B1 : Int) by omega))]
  refine ⟨true, rfl, iteF ?_⟩
  refine ⟨_, rfl, inv_at (kx.kp e18.kp) fun z9 H9 _ e9 kz9 => ?_⟩
  obtain ⟨d9, p9, hz9⟩ := ins kz9
  refine ⟨z9, d9, _, rfl, hz9, cl' _, _, rfl, z9, b, n, _, rfl, kz9, hn, hn4, hT8.ext e9.at_, fun H10 e10 hT10 => ?_⟩
  rw [hB4]
  have e110 := e18.trans (e9.kx.trans e10)
  refine ⟨_, rfl, _, rfl, _, _, rfl, rfl, _, _, rfl, .inl ⟨_, rfl⟩, .inl ⟨_, rfl⟩, ?_⟩
  rw [decide_eq_true (congrArg V.int (show ((B4 : Nat) : Int) = (n : Int) - (A1 : Int) by omega))]
  refine ⟨true, rfl, iteT ?_⟩
  refine ⟨_, rfl, inv_at (ky.kp e110.kp) fun z11 H11 _ e11 kz11 => ?_⟩
  obtain ⟨d11, p11, hz11⟩ := ins kz11
  refine ⟨z11, d11, _, rfl, hz11, cl' _, _, rfl, z11, b, n, _, rfl, kz11, hn, hn4, hT10.ext e11.at_, fun H12 e12' hT12 => ?_⟩
  rw [hB5]
  have e112 := e110.trans (e11.kx.trans e12')
  refine ⟨_, rfl, _, rfl, _, _, rfl, rfl, _, _, rfl, .inl ⟨_, rfl⟩, .inl ⟨_, rfl⟩, ?_⟩
  rw [decide_eq_true (congrArg V.int (show ((B5 : Nat) : Int) = (n : Int) - (A2 : Int) by omega))]
  refine ⟨true, rfl, iteT ?_⟩
  refine ⟨_, rfl, _, _, rfl, rfl, _, rfl, ?_⟩
  rw [decide_eq_true (show (0 : Int) ≤ (A1 : Int) by omega)]
  refine iteT ⟨_, rfl, _, _, rfl, rfl, ?_⟩
  show Q (.bl (decide ((A1 : Int) ≤ (n : Int)))) H12
  rw [decide_eq_true (show (A1 : Int) ≤ (n : Int) by omega)]
  exact k_ H12 e112 hT12
abbrev N_law_by_sums : List Str := ["kind", "many", "left", "n", "place_due", "counted", "due"]
theorem sc_law_by_sums : FnScope N_law_by_sums ["kind", "many", "left", "n", "place_due"] (defScope s_law_by_sums) := ⟨rfl, rfl, rfl, by decide +kernel, rfl, by decide +kernel, by decide +kernel⟩
theorem hb_law_by_sums : HB s_law_by_sums "_law_by_sums" "_law_by_sums" ["kind", "many", "left", "n", "place_due"] := fun _ _ _ _ _ _ us hl => match us, hl with | [_, _, _, _, _], _ => rfl

def spBySums (CG C : Addr) (TT' : List NTab) : Sp := fun vs H Q _ => ∃ (x : Addr) (b d left n pl : Nat) (F : Nat → Bool), vs = [.ref x, .int d, .int left, .int n, .int pl] ∧ KindAt CG C H x b F ∧ ByR d left F ∧ d ≤ 16 ∧ 0 < n ∧ n ≤ N40 ∧ 0 < pl ∧ pl ≤ N40 ∧ TabsN TT' H ∧ ∀ H', Kx H H' → TabsN TT' H' → Q (.bl true) H'
theorem g_law_by_sums {f CG C : Addr} {TT' : List NTab} (T : Bt mg) (c : KiC K mg CG C) (D : Df K "_law_by_sums" "_law_by_sums" s_law_by_sums f) (m : mg "_law_by_sums" = some (.ref f)) (G1 : Fn P w K mg base CXN 1 "_law_is" ["found", "due"] spLIs)
    (G2 : MtK P w K mg base CXN 6 C "count" "Kind.count" s_Kind_count ["self", "number"] (spKCount CG C TT')) (G3 : MtK P w K mg base CXN 5 C "after" "Kind.after" s_Kind_after ["self", "number"] (spKAfter CG C TT')) (G4 : MtK P w K mg base CXN 6 C "nth" "Kind.nth" s_Kind_nth ["self", "place"] (spKNth CG C TT')) (G5 : Mt P w K mg base CXN 3 C "least" ["self"] (spKLeast CG C)) :
    Fn P w K mg base CXN 7 "_law_by_sums" ["kind", "many", "left", "n", "place_due"] (spBySums CG C TT') := by
  refine D.fn m sc_law_by_sums hb_law_by_sums (fun vs H Q E ⟨x, b, d, left, n, pl, F, e, _⟩ => by rw [e]; rfl) fun cdv A outer s H vs Q E hr ⟨x, b, d, left, n, pl, F, e, kx, hF, hd, hn, hn4, hp, hp4, hT, k_⟩ => ?_
  subst e
  have hu64 := hr.units
  have hu := hu_of hr
  refine ⟨_, (C8.pss_cut (ps_set (i := 5) sc_law_by_sums.nd rfl (Or.inl rfl) (pe_ifExp (pt_cmpR (op_ge) (pv 3) (pv 2) (nomark _)) (pe_op op_add (pe_op op_fdivW (pe_op op_sub (pv 3) (pv 2)) (pv 1)) pe_int) pe_int))
    (pss_cons (ps_if (PW.pt (pw_or (pt_not (pt_val (pe_fn G1 (hr.mono (by decide)) (by rfl) pass0 (pa_cons (pe_mt G2.mt c.cl (hr.mono (by decide)) (pv 0) pass0 (pa_cons (pv 3) pa_nil)) (pa_cons (pv 5) pa_nil))))) (pw_or1 (pt_not (pt_val (pe_fn G1 (hr.mono (by decide)) (by rfl) pass0 (pa_cons (pe_mt G3.mt c.cl (hr.mono (by decide)) (pv 0) pass0 (pa_cons (pv 3) pa_nil)) (pa_cons (pe_op op_add (pv 2) (pe_op op_mulW (pv 1) (pv 5))) pa_nil)))))))) (pss_one (ps_ret pe_bl)) pss_nil)
    (pss_cons (ps_set (i := 6) sc_law_by_sums.nd rfl (Or.inl rfl) (pe_op op_add (pv 2) (pe_op op_mulW (pv 1) (pe_op op_sub (pv 4) pe_int))))
    (pss_one (ps_ret (pe_and (pe_fn G1 (hr.mono (by decide)) (by rfl) pass0 (pa_cons (pe_mt G4.mt c.cl (hr.mono (by decide)) (pv 0) pass0 (pa_cons (pv 4) pa_nil)) (pa_cons (pe_ifExp (pt_cmpR (op_le) (pv 6) (pe_op op_powW pe_int pe_int) (nomark _)) (pv 6) pe_non) pa_nil))) (pe_one (pe_fn G1 (hr.mono (by decide)) (by rfl) pass0 (pa_cons (pe_mt0 G5 c.cl (hr.mono (by decide)) (pv 0) pass0) (pa_cons (pv 2) pa_nil)))))))))), ?_⟩
  have cl' : ∀ z : V, List.lookup ("count" : Str) [(("grid" : Str), z)] = none := fun z => by rw [lk_ne (by decide +kernel)] <;> rfl
  have na : ∀ z : V, List.lookup ("after" : Str) [(("grid" : Str), z)] = none := fun z => by rw [lk_ne (by decide +kernel)] <;> rfl
  have nt : ∀ z : V, List.lookup ("nth" : Str) [(("grid" : Str), z)] = none := fun z => by rw [lk_ne (by decide +kernel)] <;> rfl
  have nl : ∀ z : V, List.lookup ("least" : Str) [(("grid" : Str), z)] = none := fun z => by rw [lk_ne (by decide +kernel)] <;> rfl
  obtain ⟨dx, pgx, _, _, _, _, hx, _⟩ := id kx
  have hd1 := hF.d1
  have hl1 := hF.l1
  have hld := hF.ld
  obtain ⟨ct, hct⟩ : ∃ ct, cb F (n + 1) = ct := ⟨_, rfl⟩
  have hcnt := hF.counted n
  rw [hct] at hcnt
  have hctn : ct ≤ n := by
    have := cb_not F n
    omega
  -- counted
  refine ⟨fun σ' H' => H' = H ∧ σ' = [some (.ref x), some (.int d), some (.int left), some (.int n), some (.int pl), some (.int ct), none], ?_, ?_⟩
  · refine ⟨_, rfl, _, rfl, _, _, rfl, rfl, _, rfl, ?_⟩
    refine ifb (fun hle => ?_) (fun hgt => ?_)
    · have hle : left ≤ n := by omega
      rw [if_pos hle] at hcnt
      refine ⟨_, rfl, _, rfl, _, _, rfl, rfl, _, rfl, _, _, rfl, rfl, wide_div (b := 10) (by omega) (by simp; omega) (by decide) (by decide), _, _, rfl, rfl, ?_⟩
      have e : ((n : Int) - (left : Int)) / (d : Int) + 1 = (ct : Int) := by
        rw [hcnt, show (n : Int) - (left : Int) = ((n - left : Nat) : Int) by omega]
        simp
      dsimp only
      rw [e]
      exact ⟨rfl, rfl⟩
    · have hgt : ¬ left ≤ n := by omega
      rw [if_neg hgt] at hcnt
      subst hcnt
      exact ⟨rfl, rfl⟩
  rintro σ1 H1 ⟨rfl, rfl⟩
  have p40 : (10 : Int) ^ (40 : Int).toNat = ((N40 : Nat) : Int) := by decide +kernel
  have sm40 : ∀ k : Nat, k ≤ N40 → ((k : Nat) : Int).natAbs < 2 ^ 200 := fun k h => by
    rw [Int.natAbs_natCast]
    exact Nat.lt_of_le_of_lt h (Nat.lt_of_lt_of_le N40_lt (Nat.pow_le_pow_right (by decide) (by decide)))
  refine ⟨_, rfl, x, dx, _, rfl, hx, cl' _, _, rfl, x, b, n, F, rfl, kx, hn, hn4, hT, fun H2 e2 hT2 => ?_⟩
  rw [hct]
  refine ⟨_, rfl, _, _, rfl, .inl ⟨_, rfl⟩, .inl ⟨_, rfl⟩, ?_⟩
  rw [decide_eq_true rfl]
  refine ⟨true, rfl, iteF ?_⟩
  refine ⟨_, rfl, x, dx, _, rfl, e2.kp.ins hx, na _, _, rfl, x, b, n, F, rfl, kx.kp e2.kp, hn, hn4, hT2, fun v H3 e3 hT3 ⟨m1, g1, mk1, c1, hv⟩ => ?_⟩
  have hvv : v = .int ((left + d * ct : Nat) : Int) := by
    obtain ⟨n1, n2⟩ := hF.next (n := n)
    have mem := (hF.member ct).1
    rw [hct] at n1 n2
    rcases hv with ⟨x0, a1, a2, a3, a4, rfl⟩ | ⟨a1, rfl⟩
    · rcases Nat.lt_trichotomy x0 (left + d * ct) with h | h | h
      · rw [n2 x0 a1 h] at a3; cases a3
      · rw [h]
      · rw [a4 _ n1 h] at mem; cases mem
    · rw [a1 _ n1] at mem; cases mem
  subst hvv
  refine ⟨_, rfl, _, rfl, _, rfl, _, _, rfl, rfl, wide_mul (a := 10) (b := 200) (by simp; omega) (sm40 ct (by omega)) (by decide) (by decide) (by decide), _, _, rfl, rfl, _, _, rfl, .inl ⟨_, rfl⟩, .inl ⟨_, rfl⟩, ?_⟩
  rw [decide_eq_true (congrArg V.int (show ((left + d * ct : Nat) : Int) = (left : Int) + (d : Int) * (ct : Int) by simp))]
  refine ⟨true, rfl, iteF ?_⟩
  have e13 := e2.trans e3
  obtain ⟨due, hdue⟩ : ∃ due, left + d * (pl - 1) = due := ⟨_, rfl⟩
  obtain ⟨dm1, dm2⟩ := hF.member (pl - 1)
  rw [hdue] at dm1 dm2
  have dm2 : cb F (due + 1) = pl := by omega
  have edue : (left : Int) + (d : Int) * ((pl : Int) - 1) = ((due : Nat) : Int) := by
    rw [← hdue, show (pl : Int) - 1 = ((pl - 1 : Nat) : Int) by omega]
    simp
  refine ⟨_, rfl, _, rfl, _, rfl, _, _, rfl, rfl, _, _, rfl, rfl, wide_mul (a := 10) (b := 200) (by simp; omega) (by
    show ((pl : Int) - 1).natAbs < _
    rw [show (pl : Int) - 1 = ((pl - 1 : Nat) : Int) by omega]
    exact sm40 _ (by omega)) (by decide) (by decide) (by decide), _, _, rfl, rfl, ?_⟩
  dsimp only
  rw [edue]
  refine ⟨_, rfl, x, dx, _, rfl, e13.kp.ins hx, nt _, _, rfl, x, b, pl, F, rfl, kx.kp e13.kp, hp, hp4, hT3, fun v H4 e4 hT4 hv => ?_⟩
  have e14 := e13.trans e4
  refine ⟨_, rfl, _, _, rfl, rfl, powW_ok (k := 10) (n := 40) (by decide) (by decide), _, _, rfl, rfl, _, rfl, ?_⟩
  rw [p40]
  refine ifb (fun hle => ?_) (fun hgt => ?_)
  · have hle := Int.ofNat_le.mp hle
    have hv' : v = .int (due : Nat) := by
      rcases hv with ⟨n1, q1, q2, q3, q4, rfl⟩ | ⟨q1, rfl⟩
      · rw [cb_inj q1 (by omega) q3 dm1 (by omega)]
      · have := cb_mono F (show due + 1 ≤ N40 + 1 from Nat.succ_le_succ hle)
        omega
    subst hv'
    refine ⟨_, rfl, _, _, rfl, .inl ⟨_, rfl⟩, .inl ⟨_, rfl⟩, ?_⟩
    rw [decide_eq_true rfl]
    refine ⟨true, rfl, iteT ?_⟩
    refine ⟨_, rfl, x, dx, _, rfl, e14.kp.ins hx, nl _, x, b, F, rfl, kx.kp e14.kp, fun v' H5 e5 hv' => ?_⟩
    have hvl := hF.least hv'
    subst hvl
    refine ⟨_, rfl, _, _, rfl, .inl ⟨_, rfl⟩, .inl ⟨_, rfl⟩, ?_⟩
    rw [decide_eq_true rfl]
    exact k_ H5 (e14.trans e5.kx) (hT4.ext e5.at_)
  · have hgt : ¬ due ≤ N40 := fun z => hgt (Int.ofNat_le.mpr z)
    have hv' : v = .non := by
      rcases hv with ⟨n1, q1, q2, q3, q4, rfl⟩ | ⟨q1, rfl⟩
      · exfalso
        have := cb_inj q1 (by omega) q3 dm1 (by omega)
        omega
      · rfl
    subst hv'
    refine ⟨_, _, rfl, .inr rfl, .inr rfl, ?_⟩
    rw [decide_eq_true rfl]
    refine ⟨true, rfl, iteT ?_⟩
    refine ⟨_, rfl, x, dx, _, rfl, e14.kp.ins hx, nl _, x, b, F, rfl, kx.kp e14.kp, fun v' H5 e5 hv' => ?_⟩
    have hvl := hF.least hv'
    subst hvl
    refine ⟨_, rfl, _, _, rfl, .inl ⟨_, rfl⟩, .inl ⟨_, rfl⟩, ?_⟩
    rw [decide_eq_true rfl]
    exact k_ H5 (e14.trans e5.kx) (hT4.ext e5.at_)
end
end Bz
end
section
set_option Elab.async false
set_option linter.all false
set_option maxRecDepth 100000
set_option maxHeartbeats 8000000
namespace Bz
open PySem PySem.Spec PyProof.Rows L2 LamX NdefX
/-- the first behind a number, or none behind it -/
def NextIs (b : Nat) (F : Nat → Bool) (n : Nat) (v : V) : Prop := (∃ x : Nat, n < x ∧ (figs b x).length ≤ 210 ∧ F x = true ∧ (∀ y, n < y → y < x → F y = false) ∧ v = .int x) ∨ ((∀ y, n < y → F y = false) ∧ v = .non)
theorem cb_none {F : Nat → Bool} {n : Nat} (h : ∀ y, n < y → F y = false) : ∀ k, n + 1 ≤ k → cb F k = cb F (n + 1) := by
  intro k hk
  induction hk with
  | refl => rfl
  | step hk ih =>
    rename_i k
    have hk : n + 1 ≤ k := hk
    show cb F k + (if 0 < k ∧ F k = true then 1 else 0) = _
    rw [if_neg (fun z => by rw [h k (by omega)] at z; exact absurd z.2 (by decide)), Nat.add_zero]
    exact ih
theorem figs_of_lt {b x k : Nat} (hb : 2 ≤ b) (h : x < b ^ k) : (figs b x).length ≤ k := by
  by_cases h0 : x = 0
  · rw [h0, figs_zero]; exact Nat.zero_le _
  · apply Classical.byContradiction
    intro z
    have h1 := figs_pow_le hb x (Nat.pos_of_ne_zero h0)
    have h2 : b ^ k ≤ b ^ ((figs b x).length - 1) := Nat.pow_le_pow_right (by omega) (by omega)
    omega
theorem least_next {b m : Nat} {g : Rows} {mk F : Nat → Bool} (hb : 2 ≤ b) (C : Canon b m g mk F) (hm : m ≤ 32) {v : V} (h : LeastR F v) : NextIs b F 0 v := by
  rcases h with ⟨x, h1, h2, h3, rfl⟩ | ⟨h1, rfl⟩
  · refine .inl ⟨x, h1, ?_, h2, fun y y1 y2 => ?_, rfl⟩
    · obtain ⟨y, y1, y2, y3⟩ := pump hb C (n := 0) (L := 0) (by rw [Nat.pow_zero]; decide) ⟨x, h1, h2⟩
      have := h3 y y1 y3
      have := figs_of_lt hb (show x < b ^ (0 + m) by omega)
      omega
    · cases hF : F y with
      | false => rfl
      | true => have := h3 y y1 hF; omega
  · exact .inr ⟨h1, rfl⟩
theorem after_next {b m n : Nat} {F : Nat → Bool} (hb : 2 ≤ b) (hm : (figs b n).length + m ≤ 210) {v : V} (h : NxtR F n (b ^ ((figs b n).length + m)) v) : NextIs b F n v := by
  rcases h with ⟨x, h1, h2, h3, h4, rfl⟩ | ⟨h1, rfl⟩
  · exact .inl ⟨x, h1, Nat.le_trans (figs_of_lt hb h2) hm, h3, h4, rfl⟩
  · exact .inr ⟨h1, rfl⟩
end Bz
end
section
set_option Elab.async false
set_option linter.all false
set_option maxRecDepth 100000
set_option maxHeartbeats 8000000
namespace Bz
open PySem PySem.Spec PyProof.Rows L2 LamX NdefX
section
variable {P : Program} {w : World} {K : PySem.W.Frag} {mg : Str → Option Value} {base : Heap}
theorem cb1 {f : List V → Hp → VK → Prop} {te : TE} {σ : L2.St} {H : Hp} {Q : VK} (h : te σ H fun x H1 => f [x] H1 Q) : tCB f (tCons te tNil) σ H Q := h
theorem ifs1 {t : TE} {a b : TS} {D : Ends} {σ : L2.St} {H : Hp} (h : t σ H fun x H1 => ∃ k, x = .bl k ∧ if k = true then a D σ H1 else b D σ H1) : tIfS (tTest t) a b D σ H := h
theorem op1 {r : R2} {t u : TE} {σ : L2.St} {H : Hp} {Q : VK} (h : t σ H fun x H1 => u σ H1 fun y H2 => r x y H2 Q) : tOp r t u σ H Q := h
theorem seq1 {a b : TS} {D : Ends} {σ : L2.St} {H : Hp} (h : a { D with nx := b D } σ H) : tSeq a b D σ H := h
theorem nx1 {D : Ends} {σ : L2.St} {H : Hp} (h : D.nx σ H) : tNext D σ H := h
theorem cons1 {te : TE} {tr : TA} {σ : L2.St} {H : Hp} {Q : List V → Hp → Prop} (h : te σ H fun x H1 => tr σ H1 fun xs H2 => Q (x :: xs) H2) : tCons te tr σ H Q := h
theorem tif_vv {c : TT} {i j : Nat} {σ : L2.St} {H : Hp} {Q : VK} {x y z : V} {b : Bool} (hi : σ[i]? = some (some x)) (hj : σ[j]? = some (some y)) (hz : (if b = true then x else y) = z) (hc : ∀ R : Bool → Hp → Prop, R b H → c σ H R) (k : Q z H) : tIf c (tVar i) (tVar j) σ H Q := by
  refine hc _ ?_
  cases b with
  | true => exact ⟨x, hi, by rw [show x = z from hz]; exact k⟩
  | false => exact ⟨y, hj, by rw [show y = z from hz]; exact k⟩
theorem asg1 {te : TE} {g : TG} {D : Ends} {σ : L2.St} {H : Hp} (h : te σ H fun x H1 => g x σ H1 D.nx) : tAsg te g D σ H := h
/-- the members of a stretch, listed by the law's own test -/
theorem lc_in {b lo cnt iB iT iM : Nat} {t : LT} {F : Nat → Bool} {p : Addr} {σ : L2.St} {Hs : Hp} {ta : TA} {Q : VK} (hF : t.F b = F) (hd : t.dep ≤ 5) (hok : t.ok b) (hb : 2 ≤ b) (hb2 : b ≤ 16) {oM : Option V} (nB : iB ≠ iM) (nT : iT ≠ iM) (eB : σ[iB]? = some (some (.int b))) (eT : σ[iT]? = some (some (.ref p))) (eM : σ[iM]? = some oM)
    (hp : LT.At Hs p t) (hlo : 1 ≤ lo) (hfit : ∀ y, y < lo + cnt → (figs b y).length ≤ 210) (hc : cnt ≤ 1000) (ha : ∀ R : List V → Hp → Prop, R [.int lo, .int (lo + cnt : Nat)] Hs → ta σ Hs R) (k_ : ∀ D H', Hs D = none → Sm Hs H' → H' D = some (.lst (nV (lsIn F lo cnt))) → Q (.ref D) H') :
    tLc (iRng2W ta) (gName iM) (tB (tCall (spLInR 5) [] E0 (tCons (tVar iB) (tCons (tVar iT) (tCons (tVar iM) tNil))))) (tVar iM) [iM] σ Hs Q := by
  refine ha _ ⟨lo, (lo + cnt : Nat), rfl, fun D hD => ?_⟩
  rw [show (((lo + cnt : Nat) : Int) - (lo : Int)).toNat = cnt by omega]
  have hw : ∀ v : V, wipe ((wipe σ [iM]).set iM (some v)) [iM] = wipe σ [iM] := fun v => by simp [wipe]
  have gB : ∀ v : V, ((wipe σ [iM]).set iM (some v))[iB]? = some (some (.int b)) := fun v => by
    simp only [wipe, List.set_set]
    rw [List.getElem?_set_ne (Ne.symm nB)]; exact eB
  have gT : ∀ v : V, ((wipe σ [iM]).set iM (some v))[iT]? = some (some (.ref p)) := fun v => by
    simp only [wipe, List.set_set]
    rw [List.getElem?_set_ne (Ne.symm nT)]; exact eT
  have gM : ∀ v : V, ((wipe σ [iM]).set iM (some v))[iM]? = some (some v) := fun v => by
    simp only [wipe, List.set_set]
    rw [List.getElem?_set_self (List.getElem?_eq_some_iff.mp eM).1]
  refine lc_it (walk_rangeC (lo := lo) (c := 1) (n := cnt)) (fun i H' => Sm Hs H' ∧ H' D = some (.lst (nV (lsIn F lo i)))) ⟨Sm.new hD, upd_same⟩ (fun _ _ _ _ => True.intro) ?_ ?_
  · rintro i v H1 H2 hi ⟨e1, h1⟩ ⟨rfl, rfl⟩
    have ei : (lo : Int) + (i : Int) * 1 = ((lo + i : Nat) : Int) := by omega
    dsimp only
    rw [ei]
    refine ⟨hw _, _, gB _, _, gT _, _, gM _, p, t, b, lo + i, rfl, hp.kp e1.kp, hd, hok, hb, hb2, by omega, hfit _ (by omega), fun H3 e3 => ⟨_, rfl, ?_⟩⟩
    rw [hF]
    have e13 := e1.trans e3
    have h3 := e3.at_ _ _ h1
    have ll : (lsIn F lo i).length ≤ i := by
      unfold lsIn
      exact Nat.le_trans (List.length_filter_le _ _) (by rw [List.length_map, List.length_range]; exact Nat.le_refl _)
    cases hFi : F (lo + i) with
    | true =>
      refine iteT ⟨_, gM _, _, h3, by rw [List.length_map]; exact sz_lt (by omega), e13.mut hD, ?_⟩
      rw [upd_same, lsIn_succ, if_pos hFi]
      unfold nV
      rw [List.map_append]; rfl
    | false =>
      refine iteF ⟨e13, ?_⟩
      rw [h3, lsIn_succ, if_neg (by rw [hFi]; decide), List.append_nil]
  · rintro H1 ⟨e1, h1⟩
    exact k_ D H1 hD e1 h1
abbrev N_law_near : List Str := ["bag", "kind", "root", "test", "n", "ahead", "many", "m", "later", "found", "last"]
theorem sc_law_near : FnScope N_law_near ["bag", "kind", "root", "test", "n"] (defScope s_law_near) := ⟨rfl, rfl, rfl, by decide +kernel, rfl, by decide +kernel, by decide +kernel⟩
theorem hb_law_near : HB s_law_near "_law_near" "_law_near" ["bag", "kind", "root", "test", "n"] := fun _ _ _ _ _ _ us hl => match us, hl with | [_, _, _, _, _], _ => rfl

def spNear (CG C : Addr) (TT' : List NTab) : Sp := fun vs H Q _ => ∃ (a x p : Addr) (b n k : Nat) (t : LT), vs = [.ref a, .ref x, .int b, .ref p, .int n] ∧ BagAt H a (k + 1) ∧ KindAt CG C H x b (t.F b) ∧ LT.At H p t ∧ t.dep ≤ 5 ∧ t.ok b ∧ 2 ≤ b ∧ b ≤ 16 ∧ 0 < n ∧ n ≤ N40 ∧ (∀ m' g' mk', Canon b m' g' mk' (t.F b) → m' ≤ 32) ∧ TabsN TT' H ∧ ∀ H', Kw a H H' → BagAt H' a k → TabsN TT' H' → Q (.bl true) H'
theorem g_law_near {f CG C : Addr} {TT' : List NTab} (T : Bt mg) (c : KiC K mg CG C) (D : Df K "_law_near" "_law_near" s_law_near f) (m : mg "_law_near" = some (.ref f)) (G1 : Fn P w K mg base CXN 1 "_law_draw" ["bag", "many"] spDraw) (G2 : Fn P w K mg base CXN 7 "_law_in" ["root", "test", "n"] (spLInR 5)) (G3 : Fn P w K mg base CXN 1 "_law_is" ["found", "due"] spLIs)
    (G4 : MtK P w K mg base CXN 6 C "count" "Kind.count" s_Kind_count ["self", "number"] (spKCount CG C TT')) (G5 : MtK P w K mg base CXN 5 C "after" "Kind.after" s_Kind_after ["self", "number"] (spKAfter CG C TT')) (G6 : MtK P w K mg base CXN 6 C "nth" "Kind.nth" s_Kind_nth ["self", "place"] (spKNth CG C TT')) :
    Fn P w K mg base CXN 8 "_law_near" ["bag", "kind", "root", "test", "n"] (spNear CG C TT') := by
  refine D.fn m sc_law_near hb_law_near (fun vs H Q E ⟨a, x, p, b, n, k, t, e, _⟩ => by rw [e]; rfl) fun cdv A outer s H vs Q E hr ⟨a, x, p, b, n, k, t, e, hbag, kx, hp, hd, hok, hb, hb2, hn, hn4, hsz, hT, k_⟩ => ?_
  subst e
  have hu64 := hr.units
  have hu := hu_of hr
  refine ⟨_, (C8.pss_cut (ps_set (i := 5) sc_law_near.nd rfl (Or.inl rfl) (pe_op op_sub (pv 4) (pe_callB (call_min2 rfl) (by rfl) T.min (by decide +kernel) (pa_cons (pe_op op_sub (pv 4) pe_int) (pa_cons (pe_op op_add pe_int (pe_fn G1 (hr.mono (by decide)) (by rfl) pass0 (pa_cons (pv 0) (pa_cons pe_int pa_nil)))) pa_nil)))))
    (pss_cons (ps_set (i := 6) sc_law_near.nd rfl (Or.inl rfl) (pe_mt G4.mt c.cl (hr.mono (by decide)) (pv 1) pass0 (pa_cons (pv 4) pa_nil)))
    (pss_cons (ps_if (pt_not (pt_val (pe_fn G3 (hr.mono (by decide)) (by rfl) pass0 (pa_cons (pe_mt G4.mt c.cl (hr.mono (by decide)) (pv 1) pass0 (pa_cons (pv 5) pa_nil)) (pa_cons (pe_op op_sub (pv 6) (pe_callB (call_len_seqK (K := K) rfl) (by rfl) T.len PySem.boot_len (pa_cons (pe_lc (own := [("m", 7)]) (g := gName 7)  rfl sc_law_near.nd (pi_range2W rfl T.range (pa_cons (pe_op op_add (pv 5) pe_int) (pa_cons (pe_op op_add (pv 4) pe_int) pa_nil))) (blkOk_by (own := [("m", 7)]) (N := N_law_near) (sc := defScope s_law_near) (by decide +kernel)) (fun _ _ _ _ _ => (pg_name (i := 7) sc_law_near.nd rfl (Or.inl rfl))) (fun _ _ _ _ _ => (pts_one (pt_val (pe_fn G2 (hr.mono (by decide)) (by rfl) pass0 (pa_cons (pv 2) (pa_cons (pv 3) (pa_cons (pv 7) pa_nil))))))) (fun _ _ _ _ _ => (pv 7))) pa_nil))) pa_nil))))) (pss_one (ps_ret pe_bl)) pss_nil)
    (C8.pss_cut (ps_setLc (i := 8) (own := [("m", 7)]) (g := gName 7)  rfl sc_law_near.nd rfl rfl (sw_true rfl rfl rfl (by decide +kernel)) (pi_range2W rfl T.range (pa_cons (pe_op op_add (pv 4) pe_int) (pa_cons (pe_op op_add (pv 4) pe_int) pa_nil))) (blkOk_by (own := [("m", 7)]) (N := N_law_near) (sc := defScope s_law_near) (by decide +kernel)) (fun _ _ _ _ _ => (pg_name (i := 7) sc_law_near.nd rfl (Or.inl rfl))) (fun _ _ _ _ _ => (pts_one (pt_val (pe_fn G2 (hr.mono (by decide)) (by rfl) pass0 (pa_cons (pv 2) (pa_cons (pv 3) (pa_cons (pv 7) pa_nil))))))) (fun _ _ _ _ _ => (pv 7)))
    (pss_cons (ps_set (i := 9) sc_law_near.nd rfl (Or.inl rfl) (pe_mt G5.mt c.cl (hr.mono (by decide)) (pv 1) pass0 (pa_cons (pv 4) pa_nil)))
    (C8.pss_cut (ps_if (pt_cmpR (op_neDK (K := K) rfl hu64) (pv 8) (pe_lst pa_nil) (nomark _)) (pss_one (ps_if (pt_not (pt_val (pe_fn G3 (hr.mono (by decide)) (by rfl) pass0 (pa_cons (pv 9) (pa_cons (pe_ix (ix_listK (K := K) rfl) (pv 8) pe_int (fun _ _ => rfl)) pa_nil))))) (pss_one (ps_ret pe_bl)) pss_nil)) (pss_one (ps_if (pt_cmp (pc_notN (pv 9)) rfl) (pss_cons (ps_if (PW.pt (pw_or (pt_not (pt_val (pe_callB call_isi (by rfl) T.isinstance (by decide +kernel) (pa_cons (pv 9) (pa_cons (pe_bltn (v := .ty "int") (u := .type "int") rfl T.int (by decide +kernel) rfl) pa_nil))))) (pw_or (pt_val (pe_callB call_isi (by rfl) T.isinstance (by decide +kernel) (pa_cons (pv 9) (pa_cons (pe_bltn (v := .ty "bool") (u := .type "bool") rfl T.bool (by decide +kernel) rfl) pa_nil)))) (pw_or1 (pt_cmpR (op_le) (pv 9) (pe_op op_add (pv 4) pe_int) (nomark _)))))) (pss_one (ps_ret pe_bl)) pss_nil)
    (pss_one (ps_if (pt_not (pt_val (pe_fn G2 (hr.mono (by decide)) (by rfl) pass0 (pa_cons (pv 2) (pa_cons (pv 3) (pa_cons (pv 9) pa_nil)))))) (pss_one (ps_ret pe_bl)) pss_nil))) pss_nil)))
    (pss_cons (ps_if (pt_cmpR (op_eq) (pv 6) pe_int (nomark _)) (pss_one (ps_ret pe_bl)) pss_nil)
    (pss_cons (ps_set (i := 10) sc_law_near.nd rfl (Or.inl rfl) (pe_mt G6.mt c.cl (hr.mono (by decide)) (pv 1) pass0 (pa_cons (pv 6) pa_nil)))
    (pss_cons (ps_if (PW.pt (pw_or (pt_not (pt_val (pe_callB call_isi (by rfl) T.isinstance (by decide +kernel) (pa_cons (pv 10) (pa_cons (pe_bltn (v := .ty "int") (u := .type "int") rfl T.int (by decide +kernel) rfl) pa_nil))))) (pw_or (pt_val (pe_callB call_isi (by rfl) T.isinstance (by decide +kernel) (pa_cons (pv 10) (pa_cons (pe_bltn (v := .ty "bool") (u := .type "bool") rfl T.bool (by decide +kernel) rfl) pa_nil)))) (pw_or (pt_not (pt_chain op_le op_le pe_int (pv 10) (pv 4))) (pw_or1 (pt_not (pt_val (pe_fn G2 (hr.mono (by decide)) (by rfl) pass0 (pa_cons (pv 2) (pa_cons (pv 3) (pa_cons (pv 10) pa_nil))))))))))) (pss_one (ps_ret pe_bl)) pss_nil)
    (pss_cons (ps_if (pt_cmpR (op_neDK (K := K) rfl hu64) (pe_lc (own := [("m", 7)]) (g := gName 7)  rfl sc_law_near.nd (pi_range2W rfl T.range (pa_cons (pe_op op_add (pv 10) pe_int) (pa_cons (pe_op op_add (pe_callB (call_min2 rfl) (by rfl) T.min (by decide +kernel) (pa_cons (pv 4) (pa_cons (pe_op op_add (pv 10) pe_int) pa_nil))) pe_int) pa_nil))) (blkOk_by (own := [("m", 7)]) (N := N_law_near) (sc := defScope s_law_near) (by decide +kernel)) (fun _ _ _ _ _ => (pg_name (i := 7) sc_law_near.nd rfl (Or.inl rfl))) (fun _ _ _ _ _ => (pts_one (pt_val (pe_fn G2 (hr.mono (by decide)) (by rfl) pass0 (pa_cons (pv 2) (pa_cons (pv 3) (pa_cons (pv 7) pa_nil))))))) (fun _ _ _ _ _ => (pv 7))) (pe_lst pa_nil) (nomark _)) (pss_one (ps_ret pe_bl)) pss_nil)
    (pss_one (ps_ret (pe_and (pe_fn G3 (hr.mono (by decide)) (by rfl) pass0 (pa_cons (pe_mt G4.mt c.cl (hr.mono (by decide)) (pv 1) pass0 (pa_cons (pv 10) pa_nil)) (pa_cons (pv 6) pa_nil))) (pe_one (pe_or (pe_cmpR (op_eq) (pv 10) pe_int (nomark _)) (pe_one (pe_fn G3 (hr.mono (by decide)) (by rfl) pass0 (pa_cons (pe_mt G4.mt c.cl (hr.mono (by decide)) (pv 1) pass0 (pa_cons (pe_op op_sub (pv 10) pe_int) pa_nil)) (pa_cons (pe_op op_sub (pv 6) pe_int) pa_nil))))))))))))))))))), ?_⟩
  obtain ⟨F, hF⟩ : ∃ F, t.F b = F := ⟨_, rfl⟩
  rw [hF] at kx hsz
  have cl' : ∀ z : V, List.lookup ("count" : Str) [(("grid" : Str), z)] = none := fun z => by rw [lk_ne (by decide +kernel)] <;> rfl
  have na : ∀ z : V, List.lookup ("after" : Str) [(("grid" : Str), z)] = none := fun z => by rw [lk_ne (by decide +kernel)] <;> rfl
  have nt : ∀ z : V, List.lookup ("nth" : Str) [(("grid" : Str), z)] = none := fun z => by rw [lk_ne (by decide +kernel)] <;> rfl
  have b1000 : (24 : Nat) < 2 ^ 1000 := by decide +kernel
  -- ahead
  refine ⟨fun σ' H' => ∃ ah : Nat, σ' = [some (.ref a), some (.ref x), some (.int b), some (.ref p), some (.int n), some (.int ah), none, none, none, none, none] ∧ Kz a H H' ∧ BagAt H' a k ∧ 1 ≤ ah ∧ ah ≤ n ∧ n ≤ ah + 24, ?_, ?_⟩
  · refine ⟨_, rfl, _, rfl, _, _, rfl, rfl, _, rfl, a, 24, k, rfl, hbag, by decide, b1000, fun r H1 hr kz1 bg1 => ⟨_, _, rfl, rfl, _, _, rfl, _, _, rfl, rfl, ?_⟩⟩
    obtain ⟨ah, hah, h1, h2, h3⟩ : ∃ ah : Nat, (n : Int) - (if (1 : Int) + (r : Int) < (n : Int) - 1 then (1 : Int) + (r : Int) else (n : Int) - 1) = (ah : Int) ∧ 1 ≤ ah ∧ ah ≤ n ∧ n ≤ ah + 24 := by
      by_cases h : (1 : Int) + (r : Int) < (n : Int) - 1
      · rw [if_pos h]
        exact ⟨n - (1 + r), by omega, by omega, by omega, by omega⟩
      · rw [if_neg h]
        exact ⟨1, by omega, by omega, by omega, by omega⟩
    dsimp only
    rw [hah]
    exact ⟨ah, rfl, kz1, bg1, h1, h2, h3⟩
  rintro σ1 H1 ⟨ah, rfl, kz1, bg1, ha1, ha2, ha3⟩
  have hT1 := tabs_kz hbag kz1 hT
  have kx1 := kx.kz hbag kz1
  have hp1 := hp.kz hbag kz1
  obtain ⟨dx, pgx, mx, gx, msx, mkx, hx1, hgx, hcx, hmx, hlx, _, _⟩ := id kx1
  have fit : ∀ y : Nat, y ≤ N40 + 30 → (figs b y).length ≤ 210 := fun y h => figs_fit hb (Nat.lt_of_le_of_lt h (by decide +kernel))
  obtain ⟨ct, hct⟩ : ∃ ct, cb F (n + 1) = ct := ⟨_, rfl⟩
  have hctn : ct ≤ n := by
    have := cb_not F n
    omega
  refine ⟨_, rfl, x, dx, _, rfl, hx1, cl' _, _, rfl, x, b, n, F, rfl, kx1, hn, hn4, hT1, fun H2 e2 hT2 => ?_⟩
  rw [hct]
  have hp2 := hp1.kp e2.kp
  have kx2 := kx1.kp e2.kp
  have bg2 : BagAt H2 a k := bg1.sm fun xs h => e2.kp.lst h
  -- counts of near numbers
  refine ⟨_, rfl, x, dx, _, rfl, e2.kp.ins hx1, cl' _, _, rfl, x, b, ah, F, rfl, kx2, by omega, by omega, hT2, fun H3 e3 hT3 => ?_⟩
  obtain ⟨ca, hca⟩ : ∃ ca, cb F (ah + 1) = ca := ⟨_, rfl⟩
  rw [hca]
  have e23 := e2.trans e3
  refine ⟨_, rfl, ?_⟩
  refine cb1 ?_
  refine lc_in (iB := 2) (iT := 3) (iM := 7) (cnt := n - ah) (lo := ah + 1) hF hd hok hb hb2 (by decide) (by decide) rfl rfl rfl (hp2.kp e3.kp) (by omega) (fun y hy => fit y (by omega)) (by omega) ?_ fun D H4 hD e4 hD4 => ?_
  · intro R r
    refine ⟨_, rfl, _, _, rfl, rfl, _, rfl, _, _, rfl, rfl, ?_⟩
    dsimp only
    rw [show (ah : Int) + 1 = ((ah + 1 : Nat) : Int) by omega, show (n : Int) + 1 = ((ah + 1 + (n - ah) : Nat) : Int) by omega]
    exact r
  have hll := lsIn_count (F := F) (show 0 < ah + 1 by omega) (n - ah)
  rw [hca, show ah + 1 + (n - ah) = n + 1 by omega, hct] at hll
  refine ⟨D, _, rfl, .inl (SqL.of hD4), _, _, rfl, rfl, _, _, rfl, .inl ⟨_, rfl⟩, .inl ⟨_, rfl⟩, ?_⟩
  have lenD : (nV (lsIn F (ah + 1) (n - ah))).length = (lsIn F (ah + 1) (n - ah)).length := by unfold nV; rw [List.length_map]
  rw [decide_eq_true (congrArg V.int (show ((ca : Nat) : Int) = (ct : Int) - ((nV (lsIn F (ah + 1) (n - ah))).length : Nat) by rw [lenD]; omega))]
  refine ⟨true, rfl, iteF ?_⟩
  have hT4 := hT3.ext e4.at_
  have e24 := e23.trans e4.kx
  have hp4 := hp1.kp e24.kp
  have kx4 := kx1.kp e24.kp
  -- later
  refine ⟨fun σ' H' => ∃ pl : Addr, σ' = [some (.ref a), some (.ref x), some (.int b), some (.ref p), some (.int n), some (.int ah), some (.int ct), none, some (.ref pl), none, none] ∧ Sm H4 H' ∧ H' pl = some (.lst (nV (lsIn F (n + 1) 30))), ?_, ?_⟩
  · refine asg1 ?_
    refine lc_in (iB := 2) (iT := 3) (iM := 7) (cnt := 30) (lo := n + 1) hF hd hok hb hb2 (by decide) (by decide) rfl rfl rfl hp4 (by omega) (fun y hy => fit y (by omega)) (by omega) ?_ fun D5 H5 hD5 e5 hl5 => ?_
    · intro R r
      refine ⟨_, rfl, _, _, rfl, rfl, _, rfl, _, _, rfl, rfl, ?_⟩
      dsimp only
      rw [show (n : Int) + 1 = ((n + 1 : Nat) : Int) by omega, show (n : Int) + 31 = ((n + 1 + 30 : Nat) : Int) by omega]
      exact r
    exact ⟨D5, rfl, e5, hl5⟩
  rintro σ5 H5 ⟨pl, rfl, e5, hl5⟩
  have e25 := e24.trans e5.kx
  have hT5 := hT4.ext e5.at_
  have kx5 := kx1.kp e25.kp
  refine ⟨_, rfl, x, dx, _, rfl, e25.kp.ins hx1, na _, _, rfl, x, b, n, F, rfl, kx5, hn, hn4, hT5, fun v H6 e6 hT6 ⟨m1, g1, mk1, c1, hv⟩ => ?_⟩
  have hm1 := hsz m1 g1 mk1 c1
  have fig40 : (figs b n).length ≤ 133 := figs_len hb 133 (Nat.lt_of_le_of_lt hn4 N40_lt)
  have hv := after_next hb (by omega) hv
  have e26 := e25.trans e6
  have hl6 := e6.kp.lst hl5
  have kx6 := kx1.kp e26.kp
  have hp6 := hp1.kp e26.kp
  have dokI : ∀ (l : List Nat) (q : Addr) (H : Hp), H q = some (.lst (nV l)) → Dok K H (.ref q) (.list (l.map fun k : Nat => PyData.int (k : Int))) 1 := fun l q H h => dok_list (n := 0) (fun k : Nat => PyData.int (k : Int)) (SqL.of h) (by unfold nV; rw [List.length_map]) fun i v k hv hk => by
    unfold nV at hv
    rw [List.getElem?_map, hk] at hv
    rw [← Option.some.inj hv]
    exact ⟨.int _, by simp [PyData.canLay0], by simp [PyData.depth]⟩
  have ls30 : ∀ y, y ∈ lsIn F (n + 1) 30 ↔ n < y ∧ y ≤ n + 30 ∧ F y = true := fun y => by
    rw [lsIn_mem]
    constructor
    · rintro ⟨h1, h2, h3⟩; exact ⟨by omega, by omega, h3⟩
    · rintro ⟨h1, h2, h3⟩; exact ⟨by omega, by omega, h3⟩
  refine ⟨fun σ' H' => σ' = [some (.ref a), some (.ref x), some (.int b), some (.ref p), some (.int n), some (.int ah), some (.int ct), none, some (.ref pl), some v, none] ∧ Sm H6 H', ?_, ?_⟩
  · refine ⟨_, rfl, Nat.zero_le _, fun pe hpe => ?_⟩
    have e7 := Sm.new (o := .lst []) hpe
    have hpe1 : (upd H6 pe (.lst [])) pe = some (.lst []) := upd_same
    generalize upd H6 pe (.lst []) = H7 at *
    have hl7 := e7.at_ _ _ hl6
    have L1 := dokI _ _ _ hl7
    have L2' := dokI [] pe _ hpe1
    refine ⟨_, _, L1.dp, L2'.dp, L1.shaped (by decide), L2'.shaped (by decide), _, rfl, ?_⟩
    cases hl : lsIn F (n + 1) 30 with
    | nil =>
      have he : PyData.eqv (.list (([] : List Nat).map fun k : Nat => PyData.int (k : Int))) (.list (([] : List Nat).map fun k : Nat => PyData.int (k : Int))) = true := by simp [PyData.eqv, PyData.eqvAll]
      rw [he]
      refine iteF ?_
      rcases hv with ⟨x0, hx0, hfit, hFx, hno, rfl⟩ | ⟨hno, rfl⟩
      · have h30 : n + 30 < x0 := by
          apply Classical.byContradiction
          intro z
          have : x0 ∈ lsIn F (n + 1) 30 := (ls30 x0).mpr ⟨hx0, by omega, hFx⟩
          rw [hl] at this
          cases this
        refine ⟨_, rfl, _, rfl, iteT ?_⟩
        refine ⟨_, rfl, _, .ty "int", .type "int", .type "int", true, rfl, ClsV.ty _, .base (.int _), kit_ty kb_ii, true, rfl, iteF ?_⟩
        refine ⟨_, rfl, _, .ty "bool", .type "int", .type "bool", false, rfl, ClsV.ty _, .base (.int _), kit_ty kb_ib, false, rfl, iteF ?_⟩
        refine ⟨_, rfl, _, rfl, _, _, rfl, rfl, _, _, rfl, rfl, _, rfl, ?_⟩
        rw [decide_eq_false (show ¬ ((x0 : Int) ≤ (n : Int) + 30) by omega)]
        refine iteF ?_
        refine ⟨_, rfl, _, rfl, _, rfl, p, t, b, x0, rfl, hp6.kp e7.kp, hd, hok, hb, hb2, by omega, hfit, fun H8 e8 => ?_⟩
        rw [hF, hFx]
        exact ⟨true, rfl, iteF ⟨rfl, e7.trans e8⟩⟩
      · exact ⟨_, rfl, _, rfl, iteF ⟨rfl, e7⟩⟩
    | cons h tl =>
      have he : PyData.eqv (.list ((h :: tl).map fun k : Nat => PyData.int (k : Int))) (.list (([] : List Nat).map fun k : Nat => PyData.int (k : Int))) = false := by simp [PyData.eqv, PyData.eqvAll]
      rw [he]
      refine iteT ?_
      rw [hl] at hl7
      have hm : h ∈ lsIn F (n + 1) 30 := by rw [hl]; exact List.mem_cons_self
      obtain ⟨m2, m3, m4⟩ := (ls30 h).mp hm
      have hveq : v = .int (h : Nat) := by
        rcases hv with ⟨x0, hx0, hfit, hFx, hno, rfl⟩ | ⟨hno, rfl⟩
        · rcases Nat.lt_trichotomy x0 h with hlt | heq | hgt
          · have : x0 ∈ lsIn F (n + 1) 30 := (ls30 x0).mpr ⟨hx0, by omega, hFx⟩
            have hs := lsIn_sorted F (n + 1) 30
            rw [hl] at this hs
            rcases List.mem_cons.mp this with z | z
            · omega
            · have := (List.pairwise_cons.mp hs).1 x0 z
              omega
          · rw [heq]
          · rw [hno h m2 hgt] at m4; cases m4
        · rw [hno h m2] at m4; cases m4
      subst hveq
      refine ⟨_, rfl, _, rfl, pl, _, 0, _, rfl, rfl, SqL.of hl7, atI_zero _ _, _, _, rfl, .inl ⟨_, rfl⟩, .inl ⟨_, rfl⟩, ?_⟩
      rw [decide_eq_true rfl]
      exact ⟨true, rfl, iteF ⟨rfl, e7⟩⟩
  rintro σ7 H7 ⟨rfl, e7⟩
  have e27 := e26.trans e7.kx
  have hT7 := hT6.ext e7.at_
  have kx7 := kx1.kp e27.kp
  have hp7 := hp1.kp e27.kp
  have bg7 : BagAt H7 a k := bg1.sm fun xs h => e27.kp.lst h
  have fin : ∀ H', Kx H7 H' → TabsN TT' H' → Q (.bl true) H' := fun H' e hT => k_ H' (kz1.kw.trans (e27.trans e).kw) (bg7.sm fun xs h => e.kp.lst h) hT
  refine ⟨_, rfl, rfl, _, rfl, ?_⟩
  refine ifb (fun h0 => fin H7 (Sm.refl H7).kx hT7) (fun h0 => ?_)
  have hc0 : 0 < ct := by
    rcases Nat.eq_zero_or_pos ct with z | z
    · exact absurd (by rw [z]; rfl) h0
    · exact z
  refine ⟨_, rfl, x, dx, _, rfl, e27.kp.ins hx1, nt _, _, rfl, x, b, ct, F, rfl, kx7, hc0, by omega, hT7, fun v8 H8 e8 hT8 hv8 => ?_⟩
  rcases hv8 with ⟨n1, q1, q2, q3, q4, rfl⟩ | ⟨q1, rfl⟩
  rotate_left
  · exfalso
    have := cb_mono F (show n + 1 ≤ N40 + 1 from Nat.succ_le_succ hn4)
    omega
  have hn1 : n1 ≤ n := by
    apply Classical.byContradiction
    intro z
    obtain ⟨j, rfl⟩ : ∃ j, n1 = j + 1 := ⟨n1 - 1, by omega⟩
    have h1 := cb_succ F j
    rw [if_pos q3] at h1
    have h2 := cb_mono F (show n + 1 ≤ j + 1 by omega)
    omega
  have hp8 := hp7.kp e8.kp
  refine ⟨_, rfl, _, .ty "int", .type "int", .type "int", true, rfl, ClsV.ty _, .base (.int _), kit_ty kb_ii, true, rfl, iteF ?_⟩
  refine ⟨_, rfl, _, .ty "bool", .type "int", .type "bool", false, rfl, ClsV.ty _, .base (.int _), kit_ty kb_ib, false, rfl, iteF ?_⟩
  refine ⟨_, rfl, _, _, rfl, rfl, _, rfl, ?_⟩
  rw [decide_eq_true (show (1 : Int) ≤ (n1 : Int) by omega)]
  refine iteT ⟨_, rfl, _, _, rfl, rfl, _, rfl, ?_⟩
  rw [decide_eq_true (show (n1 : Int) ≤ (n : Int) by omega)]
  refine iteF ?_
  refine ⟨_, rfl, _, rfl, _, rfl, p, t, b, n1, rfl, hp8, hd, hok, hb, hb2, q1, fit n1 (by omega), fun H9 e9 => ?_⟩
  rw [hF, q3]
  refine ⟨true, rfl, iteF ?_⟩
  have hp9 := hp8.kp e9.kp
  obtain ⟨cnt, hcnt⟩ : ∃ cnt, min n (n1 + 20) - n1 = cnt := ⟨_, rfl⟩
  refine nx1 ?_
  dsimp only
  refine seq1 ?_
  refine ifs1 ?_
  refine op1 ?_
  refine lc_in (iB := 2) (iT := 3) (iM := 7) (cnt := cnt) (lo := n1 + 1) hF hd hok hb hb2 (by decide) (by decide) rfl rfl rfl hp9 (by omega) (fun y hy => fit y (by omega)) (by omega) ?_ fun D H10 hD e10 hD10 => ?_
  · intro R r
    refine ⟨_, rfl, _, _, rfl, rfl, _, rfl, _, rfl, _, _, rfl, rfl, _, _, rfl, _, _, rfl, rfl, ?_⟩
    dsimp only
    rw [show (n1 : Int) + 1 = ((n1 + 1 : Nat) : Int) by omega, show (if (n1 : Int) + 20 < (n : Int) then (n1 : Int) + 20 else (n : Int)) + 1 = ((n1 + 1 + cnt : Nat) : Int) by
      split <;> omega]
    exact r
  have hll := lsIn_count (F := F) (show 0 < n1 + 1 by omega) cnt
  have hmo := cb_mono F (show n1 + 1 + cnt ≤ n + 1 by omega)
  have hnil : lsIn F (n1 + 1) cnt = [] := List.eq_nil_of_length_eq_zero (by omega)
  rw [hnil] at hD10
  refine ⟨Nat.zero_le _, fun pe hpe => ?_⟩
  have e11 := Sm.new (o := .lst []) hpe
  have hpe1 : (upd H10 pe (.lst [])) pe = some (.lst []) := upd_same
  generalize upd H10 pe (.lst []) = H11 at *
  have L1 := dokI _ _ _ (e11.at_ _ _ hD10)
  have L2' := dokI [] pe _ hpe1
  refine ⟨_, _, L1.dp, L2'.dp, L1.shaped (by decide), L2'.shaped (by decide), _, rfl, ?_⟩
  rw [show PyData.eqv (.list (([] : List Nat).map fun k : Nat => PyData.int (k : Int))) (.list (([] : List Nat).map fun k : Nat => PyData.int (k : Int))) = true by simp [PyData.eqv, PyData.eqvAll]]
  refine iteF ?_
  have e811 := e8.trans (e9.trans (e10.trans e11)).kx
  have hT11 := hT8.ext (e9.trans (e10.trans e11)).at_
  have kx11 := kx7.kp e811.kp
  have hx7 := e27.kp.ins hx1
  refine ⟨_, rfl, x, dx, _, rfl, e811.kp.ins hx7, cl' _, _, rfl, x, b, n1, F, rfl, kx11, q1, q2, hT11, fun H12 e12 hT12 => ?_⟩
  rw [q4]
  refine ⟨_, rfl, _, _, rfl, .inl ⟨_, rfl⟩, .inl ⟨_, rfl⟩, ?_⟩
  rw [decide_eq_true rfl]
  refine ⟨true, rfl, iteT ?_⟩
  refine ⟨_, rfl, rfl, _, rfl, ?_⟩
  have e812 := e811.trans e12
  refine ifb (fun _ => fin H12 e812 hT12) (fun h1 => ?_)
  have hn2 : 2 ≤ n1 := by
    apply Classical.byContradiction
    intro z
    exact h1 (by rw [show n1 = 1 by omega]; rfl)
  obtain ⟨j, rfl⟩ : ∃ j, n1 = j + 1 := ⟨n1 - 1, by omega⟩
  have hs := cb_succ F j
  rw [if_pos q3, q4] at hs
  refine ⟨_, rfl, x, dx, _, rfl, e812.kp.ins hx7, cl' _, _, rfl, _, _, rfl, rfl, x, b, j, F, by show [V.ref x, V.int (((j + 1 : Nat) : Int) - 1)] = _; rw [show ((j + 1 : Nat) : Int) - 1 = (j : Int) by omega], kx7.kp e812.kp, by omega, by omega, hT12, fun H13 e13 hT13 => ?_⟩
  refine ⟨_, rfl, _, _, rfl, rfl, _, _, rfl, .inl ⟨_, rfl⟩, .inl ⟨_, rfl⟩, ?_⟩
  show Q (.bl (decide (V.int ((cb F (j + 1) : Nat) : Int) = V.int ((ct : Int) - 1)))) H13
  rw [decide_eq_true (congrArg V.int (show ((cb F (j + 1) : Nat) : Int) = (ct : Int) - 1 by omega))]
  exact fin H13 (e812.trans e13) hT13
abbrev N_law_right : List Str := ["bag", "root", "pool", "tests", "one", "two", "n", "many", "left", "fig", "spot"]
theorem sc_law_right : FnScope N_law_right ["bag"] (defScope s_law_right) := ⟨rfl, rfl, rfl, by decide +kernel, rfl, by decide +kernel, by decide +kernel⟩
theorem hb_law_right : HB s_law_right "_law_right" "_law_right" ["bag"] := fun _ _ _ _ _ _ us hl => match us, hl with | [_], _ => rfl

def spRight (TT' : List NTab) : Sp := fun vs H Q _ => ∃ a : Addr, vs = [.ref a] ∧ BagAt H a 900000 ∧ TabsN TT' H ∧ ∀ H', Kw a H H' → TabsN TT' H' → Q (.bl true) H'
theorem g_law_right {f CG C : Addr} {TT' : List NTab} (T : Bt mg) (c : KiC K mg CG C) (D : Df K "_law_right" "_law_right" s_law_right f) (m : mg "_law_right" = some (.ref f))
    (G1 : Fn P w K mg base CXN 1 "_law_draw" ["bag", "many"] spDraw) (G2 : Fn P w K mg base CXN 2 "_law_pool" ["bag", "root", "most"] spPoolM) (G3 : Fn P w K mg base CXN 3 "_law_test" ["bag", "pool"] (spDrawT 15 5)) (G4 : Fn P w K mg base CXN 12 "_law_kind" ["root", "test"] (spLKind CG C TT' 5)) (G5 : Fn P w K mg base CXN 2 "_law_great" ["bag", "limit"] spGreat)
    (G6 : Fn P w K mg base CXN 7 "_law_add_up" ["one", "two", "n"] (spAddUp CG C TT')) (G7 : Fn P w K mg base CXN 8 "_law_near" ["bag", "kind", "root", "test", "n"] (spNear CG C TT')) (G8 : Fn P w K mg base CXN 7 "_law_by_sums" ["kind", "many", "left", "n", "place_due"] (spBySums CG C TT'))
    (G_rest : Fn P w K mg base CXN 5 "rest" ["base", "number", "rest"] (spRest CG C TT')) (G_mult : Fn P w K mg base CXN 6 "multiple" ["base", "number"] (spMultiple CG C TT')) (G_every : Fn P w K mg base CXN 5 "every" ["base"] (spEvery CG C TT')) (G_ends : Fn P w K mg base CXN 5 "ends" ["base", "figure"] (spFig CG C TT' fun b g n => decide (n % b = g))) :
    Fn P w K mg base CXN 13 "_law_right" ["bag"] (spRight TT') := by
  refine D.fn m sc_law_right hb_law_right (fun vs H Q E ⟨a, e, _⟩ => by rw [e]; rfl) fun cdv A outer s H vs Q E hr ⟨a, e, hb, hT, k_⟩ => ?_
  subst e
  have hu := hu_of hr
  have hu64 := hr.units
  refine ⟨_, (pss_cons (ps_set (i := 1) sc_law_right.nd rfl (Or.inl rfl) (pe_op op_add pe_int (pe_fn G1 (hr.mono (by decide)) (by rfl) pass0 (pa_cons (pv 0) (pa_cons pe_int pa_nil)))))
    (pss_cons (ps_set (i := 2) sc_law_right.nd rfl (Or.inl rfl) (pe_fn G2 (hr.mono (by decide)) (by rfl) pass0 (pa_cons (pv 0) (pa_cons (pv 1) (pa_cons pe_int pa_nil)))))
    (pss_cons (ps_set (i := 3) sc_law_right.nd rfl (Or.inl rfl) (pe_lst (pa_cons (pe_fn G3 (hr.mono (by decide)) (by rfl) pass0 (pa_cons (pv 0) (pa_cons (pv 2) pa_nil))) (pa_cons (pe_fn G3 (hr.mono (by decide)) (by rfl) pass0 (pa_cons (pv 0) (pa_cons (pv 2) pa_nil))) pa_nil))))
    (pss_cons (ps_par (i := 4) (j := 5) (by rfl) sc_law_right.nd rfl rfl (by decide) rfl rfl (pa_cons (pe_fn G4 (hr.mono (by decide)) (by rfl) pass0 (pa_cons (pv 1) (pa_cons (pe_ix (ix_listK (K := K) rfl) (pv 3) pe_int (fun _ _ => rfl)) pa_nil))) (pa_cons (pe_fn G4 (hr.mono (by decide)) (by rfl) pass0 (pa_cons (pv 1) (pa_cons (pe_ix (ix_listK (K := K) rfl) (pv 3) pe_int (fun _ _ => rfl)) pa_nil))) pa_nil)) (by rfl))
    (pss_cons (ps_set (i := 6) sc_law_right.nd rfl (Or.inl rfl) (pe_fn G5 (hr.mono (by decide)) (by rfl) pass0 (pa_cons (pv 0) (pa_cons (pe_op op_powW pe_int pe_int) pa_nil))))
    (pss_cons (ps_if (PW.pt (pw_or (pt_not (pt_val (pe_callB call_isi (by rfl) T.isinstance (by decide +kernel) (pa_cons (pv 4) (pa_cons (pe_glob (v := .ref C) rfl c.kp rfl) pa_nil))))) (pw_or1 (pt_not (pt_val (pe_callB call_isi (by rfl) T.isinstance (by decide +kernel) (pa_cons (pv 5) (pa_cons (pe_glob (v := .ref C) rfl c.kp rfl) pa_nil)))))))) (pss_one (ps_ret pe_bl)) pss_nil)
    (pss_cons (ps_if (PW.pt (pw_or (pt_not (pt_val (pe_fn G6 (hr.mono (by decide)) (by rfl) pass0 (pa_cons (pv 4) (pa_cons (pv 5) (pa_cons (pv 6) pa_nil)))))) (pw_or1 (pt_not (pt_val (pe_fn G7 (hr.mono (by decide)) (by rfl) pass0 (pa_cons (pv 0) (pa_cons (pv 4) (pa_cons (pv 1) (pa_cons (pe_ix (ix_listK (K := K) rfl) (pv 3) pe_int (fun _ _ => rfl)) (pa_cons (pv 6) pa_nil))))))))))) (pss_one (ps_ret pe_bl)) pss_nil)
    (C8.pss_cut (ps_set (i := 7) sc_law_right.nd rfl (Or.inl rfl) (pe_op op_add pe_int (pe_fn G1 (hr.mono (by decide)) (by rfl) pass0 (pa_cons (pv 0) (pa_cons pe_int pa_nil)))))
    (pss_cons (ps_par (i := 8) (j := 9) (by rfl) sc_law_right.nd rfl rfl (by decide) rfl rfl (pa_cons (pe_fn G1 (hr.mono (by decide)) (by rfl) pass0 (pa_cons (pv 0) (pa_cons (pv 7) pa_nil))) (pa_cons (pe_fn G1 (hr.mono (by decide)) (by rfl) pass0 (pa_cons (pv 0) (pa_cons (pv 1) pa_nil))) pa_nil)) (by rfl))
    (C8.pss_cut (ps_par (i := 10) (j := 6) (by rfl) sc_law_right.nd rfl rfl (by decide) rfl rfl (pa_cons (pe_fn G5 (hr.mono (by decide)) (by rfl) pass0 (pa_cons (pv 0) (pa_cons (pe_op op_powW pe_int pe_int) pa_nil))) (pa_cons (pe_fn G5 (hr.mono (by decide)) (by rfl) pass0 (pa_cons (pv 0) (pa_cons (pe_op op_powW pe_int pe_int) pa_nil))) pa_nil)) (by rfl))
    (pss_cons (ps_if (pt_not (pt_val (pe_fn G8 (hr.mono (by decide)) (by rfl) pass0 (pa_cons (pe_fn G_rest (hr.mono (by decide)) (by rfl) pass0 (pa_cons (pv 1) (pa_cons (pv 7) (pa_cons (pv 8) pa_nil)))) (pa_cons (pv 7) (pa_cons (pe_ifExp (pt_cmpR (op_gt) (pv 8) pe_int (nomark _)) (pv 8) (pv 7)) (pa_cons (pv 6) (pa_cons (pv 10) pa_nil)))))))) (pss_one (ps_ret pe_bl)) pss_nil)
    (pss_cons (ps_if (PW.pt (pw_or (pt_not (pt_val (pe_fn G8 (hr.mono (by decide)) (by rfl) pass0 (pa_cons (pe_fn G_mult (hr.mono (by decide)) (by rfl) pass0 (pa_cons (pv 1) (pa_cons (pv 7) pa_nil))) (pa_cons (pv 7) (pa_cons (pv 7) (pa_cons (pv 6) (pa_cons (pv 10) pa_nil)))))))) (pw_or1 (pt_not (pt_val (pe_fn G8 (hr.mono (by decide)) (by rfl) pass0 (pa_cons (pe_fn G_every (hr.mono (by decide)) (by rfl) pass0 (pa_cons (pv 1) pa_nil)) (pa_cons pe_int (pa_cons pe_int (pa_cons (pv 6) (pa_cons (pv 10) pa_nil))))))))))) (pss_one (ps_ret pe_bl)) pss_nil)
    (pss_one (ps_ret (pe_fn G8 (hr.mono (by decide)) (by rfl) pass0 (pa_cons (pe_fn G_ends (hr.mono (by decide)) (by rfl) pass0 (pa_cons (pv 1) (pa_cons (pv 9) pa_nil))) (pa_cons (pv 1) (pa_cons (pe_ifExp (pt_cmpR (op_gt) (pv 9) pe_int (nomark _)) (pv 9) (pv 1)) (pa_cons (pv 6) (pa_cons (pv 10) pa_nil)))))))))))))))))))), ?_⟩
  have b1000 : (N40 : Nat) < 2 ^ 1000 := by decide +kernel
  have lt1000 : ∀ x : Nat, x ≤ 400 → x < 2 ^ 1000 := fun x h => Nat.lt_of_le_of_lt h (by decide +kernel)
  have p40 : (10 : Int) ^ (40 : Int).toNat = ((N40 : Nat) : Int) := by decide +kernel
  refine ⟨_, rfl, a, 15, 899999, rfl, hb, by decide, lt1000 _ (by decide), fun r0 H1 hr0 kz1 bg1 => ⟨_, _, rfl, rfl, ?_⟩⟩
  dsimp only
  rw [show (2 : Int) + (r0 : Int) = ((2 + r0 : Nat) : Int) by omega]
  obtain ⟨b, hbdef⟩ : ∃ b, b = 2 + r0 := ⟨_, rfl⟩
  rw [← hbdef]
  have hb2 : 2 ≤ b := by omega
  have hb16 : b ≤ 16 := by omega
  have hT1 := tabs_kz hb kz1 hT
  refine ⟨_, rfl, _, rfl, a, b, 4, 899900, rfl, bg1.mono (by decide), hb2, hb16, by decide, by decide, fun pp q H2 hpp hpp0 G hqs hqd kz2 bg2 => ?_⟩
  have hT2 := tabs_kz bg1 kz2 hT1
  have hpp1 := hpp
  refine ⟨_, rfl, _, rfl, a, pp, q, b, 899800, rfl, bg2.mono (by decide), hpp, G, hb16, fun p t H3 ht hd hf1 ho kz3 bg3 => ?_⟩
  have hT3 := tabs_kz bg2 kz3 hT2
  refine ⟨_, rfl, _, rfl, a, pp, q, b, 899700, rfl, bg3.mono (by decide), kz_tup bg2 kz3 _ _ hpp, G, hb16, fun p' t' H4 ht' hd' hf1' ho' kz4 bg4 => ?_⟩
  have hT4 := tabs_kz bg3 kz4 hT3
  have ht4 := ht.kz bg3 kz4
  refine ⟨by show 2 ≤ sizeLine; decide, fun pl hpl => ?_⟩
  have e5 := Sm.new (o := .lst [.ref p, .ref p']) hpl
  have hpl5 : (upd H4 pl (.lst [.ref p, .ref p'])) pl = some (.lst [.ref p, .ref p']) := upd_same
  generalize upd H4 pl (.lst [.ref p, .ref p']) = H5 at *
  have npl : pl ≠ a := fun z => bg4.nn (by rw [← z]; exact hpl)
  have ht5 := ht4.kp e5.kp
  have ht5' := ht'.kp e5.kp
  have hT5 := hT4.ext e5.at_
  have bg5 : BagAt H5 a 899700 := bg4.sm fun xs h => e5.at_ _ _ h
  have small : ∀ u : LT, u.inP q → ∀ m' g' mk', Canon b m' g' mk' (u.F b) → m' ≤ 32 := fun u hu' m' g' mk' c => by
    have h1 := Pool.size G hb2 hu' m' g' mk' c
    rw [hqs] at h1
    omega
  refine ⟨_, rfl, _, rfl, pl, _, 0, _, rfl, rfl, SqL.of hpl5, atI_zero _ _, p, t, b, rfl, ht5, hd, ho.ok G, ho.few G hb2, hb2, hb16, hT5, fun x H6 hx e6 hT6 kx => ?_⟩
  have hpl6 := e6.kp.lst hpl5
  refine ⟨_, rfl, _, rfl, pl, _, 1, .ref p', rfl, rfl, SqL.of hpl6, (by exact atI_nat (j := 1) rfl), p', t', b, rfl, ht5'.kp e6.kp, hd', ho'.ok G, ho'.few G hb2, hb2, hb16, hT6, fun y H7 hy e7 hT7 ky => ?_⟩
  have e57 := e6.trans e7
  have bg7 : BagAt H7 a 899700 := bg5.sm fun xs h => e57.kp.lst h
  have kw7 : Kw a H H7 := kz1.kw.trans (kz2.kw.trans (kz3.kw.trans (kz4.kw.trans (e5.kx.trans e57).kw)))
  have kx7 := kx.kp e7.kp
  refine ⟨_, _, rfl, _, rfl, _, _, rfl, rfl, powW_ok (k := 10) (n := 40) (by decide) (by decide), a, N40, 899600, congrArg (fun z => [V.ref a, V.int z]) p40, bg7.mono (by decide), by decide, b1000, fun n H8 hn1 hn2 kz8 bg8 => ?_⟩
  have hT8 := tabs_kz bg7 kz8 hT7
  have kx8 := kx7.kz bg7 kz8
  have ky8 := ky.kz bg7 kz8
  have ht8 := (ht5.kp e57.kp).kz bg7 kz8
  have hpl8 := kz8.at_ _ _ npl (e57.kp.lst hpl5)
  obtain ⟨dx, pgx, mx, gx, msx, mkx, hx8, _⟩ := id kx8
  obtain ⟨dy, pgy, my, gy, msy, mky, hy8, _⟩ := id ky8
  refine ⟨_, rfl, _, .ref C, _, .ref C, true, rfl, ClsV.own C, c.ty hx8, c.self, true, rfl, iteF ?_⟩
  refine ⟨_, rfl, _, .ref C, _, .ref C, true, rfl, ClsV.own C, c.ty hy8, c.self, true, rfl, iteF ?_⟩
  refine ⟨_, rfl, _, rfl, _, rfl, x, y, b, n, t.F b, t'.F b, rfl, kx8, ky8, hn1, hn2, LT.inP.small (t := .and t t') G hb2 ⟨ho, ho'⟩, LT.inP.small (t := .or t t') G hb2 ⟨ho, ho'⟩, LT.inP.small (t := .xor t t') G hb2 ⟨ho, ho'⟩, hT8, fun H9 e9 hT9 => ⟨true, rfl, iteF ?_⟩⟩
  have bg9 : BagAt H9 a 899600 := bg8.sm fun xs h => e9.kp.lst h
  refine ⟨_, rfl, _, rfl, _, rfl, _, rfl, pl, _, 0, _, rfl, rfl, SqL.of (e9.kp.lst hpl8), atI_zero _ _, ?_⟩
  refine ⟨_, rfl, a, x, p, b, n, 899500, t, rfl, bg9.mono (by decide), kx8.kp e9.kp, ht8.kp e9.kp, hd, ho.ok G, hb2, hb16, hn1, hn2, small t ho, hT9, fun H10 kw10 bg10 hT10 => ⟨true, rfl, iteF ?_⟩⟩
  have kwA : Kw a H H10 := kw7.trans (kz8.kw.trans (e9.kw.trans kw10))
  -- a remainder
  refine ⟨fun σ' H' => ∃ many : Nat, σ' = [some (.ref a), some (.int b), some (.ref pp), some (.ref pl), some (.ref x), some (.ref y), some (.int n), some (.int many), none, none, none] ∧ 2 ≤ many ∧ many ≤ 12 ∧ Kw a H H' ∧ BagAt H' a 899400 ∧ TabsN TT' H', ?_, ?_⟩
  · refine ⟨_, rfl, a, 11, 899450, rfl, bg10.mono (by decide), by decide, lt1000 _ (by decide), fun r H11 hr11 kz11 bg11 => ⟨_, _, rfl, rfl, ?_⟩⟩
    dsimp only
    exact ⟨2 + r, by rw [show (2 : Int) + (r : Int) = ((2 + r : Nat) : Int) by omega] <;> rfl, by omega, by omega, kwA.trans kz11.kw, bg11.mono (by decide), tabs_kz bg10 kz11 hT10⟩
  rintro σB HB ⟨many, rfl, hm1, hm2, kwB, bgB, hTB⟩
  refine ⟨_, rfl, _, rfl, a, many, 899399, rfl, bgB, by omega, lt1000 _ (by omega), fun left H12 hl12 kz12 bg12 => ?_⟩
  refine ⟨_, rfl, _, rfl, a, b, 899398, rfl, bg12, by omega, lt1000 _ (by omega), fun fig H13 hf13 kz13 bg13 => ?_⟩
  refine ⟨_, _, rfl, ?_⟩
  have kwC := kwB.trans (kz12.kw.trans kz13.kw)
  have hT13 := tabs_kz bg12 kz13 (tabs_kz bgB kz12 hTB)
  refine ⟨fun σ' H' => ∃ spot n2 : Nat, σ' = [some (.ref a), some (.int b), some (.ref pp), some (.ref pl), some (.ref x), some (.ref y), some (.int n2), some (.int many), some (.int left), some (.int fig), some (.int spot)] ∧ (0 < spot ∧ spot ≤ N40) ∧ (0 < n2 ∧ n2 ≤ N40) ∧ Kw a H H' ∧ BagAt H' a 899000 ∧ TabsN TT' H', ?_, ?_⟩
  · refine ⟨_, rfl, _, _, rfl, rfl, powW_ok (k := 10) (n := 40) (by decide) (by decide), a, N40, 899300, congrArg (fun z => [V.ref a, V.int z]) p40, bg13.mono (by decide), by decide, b1000, fun n3 H14 h1 h2 kz14 bg14 => ?_⟩
    refine ⟨_, rfl, _, _, rfl, rfl, powW_ok (k := 10) (n := 40) (by decide) (by decide), a, N40, 899200, congrArg (fun z => [V.ref a, V.int z]) p40, bg14.mono (by decide), by decide, b1000, fun n4 H15 h3 h4 kz15 bg15 => ?_⟩
    exact ⟨_, _, rfl, n3, n4, rfl, ⟨h1, h2⟩, ⟨h3, h4⟩, kwC.trans (kz14.kw.trans kz15.kw), bg15.mono (by decide), tabs_kz bg14 kz15 (tabs_kz bg13 kz14 hT13)⟩
  rintro σD HD ⟨spot, n2, rfl, ⟨hs1, hs2⟩, ⟨hq1, hq2⟩, kwD, bgD, hTD⟩
  refine ⟨_, rfl, _, rfl, _, rfl, b, many, left, rfl, hb2, hb16, hm1, hm2, hl12, hTD, fun x1 H16 hx16 e16 hT16 kx16 => ⟨_, rfl, ?_⟩⟩
  refine cons1 ?_
  refine tif_vv (z := .int ((if left = 0 then many else left : Nat) : Int)) rfl rfl ?_ (fun R r => ⟨_, rfl, _, _, rfl, rfl, _, rfl, r⟩) ?_
  · by_cases h0 : left = 0
    · subst h0; rfl
    · rw [if_neg h0, if_pos (decide_eq_true (show (0 : Int) < (left : Int) by omega))]
  refine ⟨_, rfl, _, rfl, x1, b, many, _, n2, spot, _, rfl, kx16, byR_rest (by omega) hl12 (fun n _ => rfl), by omega, hq1, hq2, hs1, hs2, hT16, fun H17 e17 hT17 => ⟨true, rfl, iteF ?_⟩⟩
  refine ⟨_, rfl, _, rfl, b, many, rfl, hb2, hb16, hm1, hm2, hT17, fun x2 H18 hx18 e18 hT18 kx18 => ?_⟩
  refine ⟨_, rfl, _, rfl, _, rfl, _, rfl, x2, b, many, many, n2, spot, _, rfl, kx18, (by simpa using byR_rest (r := 0) (F := fun n => decide (n % many = 0)) (by omega) (by omega) (fun n _ => rfl)), by omega, hq1, hq2, hs1, hs2, hT18, fun H19 e19 hT19 => ⟨true, rfl, iteF ?_⟩⟩
  refine ⟨_, rfl, b, rfl, hb2, hb16, hT19, fun x3 H20 hx20 e20 hT20 kx20 => ?_⟩
  refine ⟨_, rfl, _, rfl, x3, b, 1, 1, n2, spot, _, rfl, kx20, (by simpa using byR_rest (d := 1) (r := 0) (F := fun _ => true) (by omega) (by omega) (fun n _ => by simp [Nat.mod_one])), by omega, hq1, hq2, hs1, hs2, hT20, fun H21 e21 hT21 => ⟨true, rfl, iteF ?_⟩⟩
  refine ⟨_, rfl, _, rfl, b, fig, rfl, hb2, hb16, hf13, hT21, fun x4 H22 hx22 e22 hT22 kx22 => ⟨_, rfl, ?_⟩⟩
  refine cons1 ?_
  refine tif_vv (z := .int ((if fig = 0 then b else fig : Nat) : Int)) rfl rfl ?_ (fun R r => ⟨_, rfl, _, _, rfl, rfl, _, rfl, r⟩) ?_
  · by_cases h0 : fig = 0
    · subst h0; rfl
    · rw [if_neg h0, if_pos (decide_eq_true (show (0 : Int) < (fig : Int) by omega))]
  exact ⟨_, rfl, _, rfl, x4, b, b, _, n2, spot, _, rfl, kx22, byR_rest (by omega) hf13 (fun n _ => rfl), by omega, hq1, hq2, hs1, hs2, hT22, fun H23 e23 hT23 => k_ H23 (kwD.trans (e16.trans (e17.trans (e18.trans (e19.trans (e20.trans (e21.trans (e22.trans e23))))))).kw) hT23⟩
abbrev N_law : List Str := ["script", "k"]
theorem sc_law : FnScope N_law ["script"] (defScope s_law) := ⟨rfl, rfl, rfl, by decide +kernel, rfl, by decide +kernel, by decide +kernel⟩
theorem hb_law : HB s_law "law" "law" ["script"] := fun _ _ _ _ _ _ us hl => match us, hl with | [_], _ => rfl

def spLaw (K : PySem.W.Frag) (TT' : List NTab) : Sp := fun vs H Q _ => ∃ (a : Addr) (ns : List Int), vs = [.ref a] ∧ SqL K H a (ns.map V.int) ∧ ns.length ≤ 63 ∧ TabsN TT' H ∧ ∀ H', Q (.bl true) H'
theorem g_law {f : Addr} {TT' : List NTab} (T : Bt mg) (D : Df K "law" "law" s_law f) (m : mg "law" = some (.ref f)) (G1 : Fn P w K mg base CXN 1 "_law_bag" ["script", "k"] (spBag K)) (G2 : Fn P w K mg base CXN 13 "_law_right" ["bag"] (spRight TT')) : Fn P w K mg base CXN 14 "law" ["script"] (spLaw K TT') := by
  refine D.fn m sc_law hb_law (fun vs H Q E ⟨a, ns, e, _⟩ => by rw [e]; rfl) fun cdv A outer s H vs Q E hr ⟨a, ns, e, hs, hl, hT, k_⟩ => ?_
  subst e
  refine ⟨_, (pss_cons (ps_for PassesOwn.never rfl (pi_range1 rfl T.range (pa_cons (pe_callB (call_max2 rfl) (by rfl) T.max (by decide +kernel) (pa_cons pe_int (pa_cons (pe_callB (call_min2 rfl) (by rfl) T.min (by decide +kernel) (pa_cons pe_int (pa_cons (pe_callB (call_len_seqK (K := K) rfl) (by rfl) T.len PySem.boot_len (pa_cons (pv 0) pa_nil)) pa_nil))) pa_nil))) pa_nil)) (pg_name (i := 1) sc_law.nd rfl (Or.inl rfl)) (pss_one (ps_if (pt_not (pt_val (pe_fn G2 hr (by rfl) pass0 (pa_cons (pe_fn G1 (hr.mono (by decide)) (by rfl) pass0 (pa_cons (pv 0) (pa_cons (pv 1) pa_nil))) pa_nil)))) (pss_one (ps_ret pe_bl)) pss_nil)))
    (pss_one (ps_ret pe_bl))), ?_⟩
  have sqk : ∀ {H' : Hp}, Kx H H' → SqL K H' a (ns.map V.int) := fun {H'} k => by
    rcases hs with (h | ⟨o, h⟩) | h
    · exact .inl (.inl (k.ext _ _ h (fun ps z => by cases z)))
    · exact .inl (.inr ⟨o, k.ext _ _ h (fun ps z => by cases z)⟩)
    · exact .inr h
  refine ⟨_, rfl, a, _, rfl, .inl hs, _, _, rfl, _, _, rfl, _, rfl, ?_, ?_, for_range (lo := 0) (fun i σ H' => ∃ o, σ = [some (.ref a), o] ∧ Kx H H' ∧ TabsN TT' H') ⟨_, rfl, ⟨ExtN.refl H, fun _ h => h⟩, hT⟩ ?_ ?_⟩
  · split <;> (try split) <;> omega
  · split <;> (try split) <;> omega
  · rintro i σ H1 hi ⟨o, rfl, kx, hT1⟩
    have hi6 : i ≤ 63 := by
      revert hi
      rw [List.length_map]
      split <;> (try split) <;> (intro hi; omega)
    rw [Int.zero_add]
    refine ⟨_, rfl, _, rfl, a, ns, i, rfl, sqk kx, hi6, fun pb H2 hpb e1 bg1 => ⟨pb, rfl, bg1, hT1.ext e1.at_, fun H3 kw hT3 => ⟨_, rfl, ?_⟩⟩⟩
    refine iteF ⟨_, rfl, ⟨fun x u h t => ?_, fun x h => kx.dom _ (e1.free (kw.dom _ h))⟩, hT3⟩
    have h1 := kx.ext x u h t
    exact kw.at_ x u (fun z => by rw [z, hpb] at h1; cases h1) (e1.at_ _ _ h1) t
  · rintro σ H1 ⟨o, rfl, kx, hT1⟩
    exact k_ H1
end
end Bz
end
section
set_option Elab.async false
set_option linter.all false
set_option maxRecDepth 100000
set_option maxHeartbeats 4000000
namespace BzH
open PySem PySem.Spec PyProof.Rows L2 LamX NdefX Bz
section
variable {P : Program} {w : World} {K : PySem.W.Frag} {h base : Heap} {mg : Str → Option Value}
theorem df_of {d : He.DefD} {x qual : Str} {st : Stmt} (c : He.SaysX fa fn [] tf ex w h K) (hd : d ∈ fn) (e : d = ⟨d.at_, x, qual, defArgs st, defBody st, defScope st, [], []⟩) : Df K x qual st (He.fAd K d.at_) := by
  obtain ⟨fd, F⟩ := c.t.d.defs hd
  refine ⟨fd, ?_⟩
  rw [e] at F
  exact F
theorem dfT_of {d : He.DefD} {x : Str} {st : Stmt} (c : He.SaysX fa fn [] tf ex w h K) (hd : d ∈ fn) (e : d = ⟨(x, none), x, x, defArgs st, defBody st, defScope st, [], []⟩) (tb : ∀ p ∈ tf.map (He.cT K), TabB base mg p.1 p.2) (hx : (x, none) ∈ tf) : DfT K base mg x x st (He.ga K x) (He.cT K (x, none)).2 := by
  obtain ⟨fd, F⟩ := c.t.d.defs hd
  rw [e] at F
  have F : FunD K x x (defArgs st) (defBody st) (defScope st) [] [] (He.fAd K (x, none)) fd := F
  obtain ⟨oc, od, dV, kV, doc, pm, an, cdv, ct, osl, efd, lk, hcd, hD, hK⟩ := F.ex
  obtain ⟨cc, hc⟩ := He.codeIn_ref hcd
  have ec : fd.code = .ref cc := by rw [efd]; exact hc
  have e2 := He.codeOf_eq (p := (x, none)) lk ec
  refine ⟨fd, cc, F, ec, ?_⟩
  have := tb (He.cT K (x, none)) (List.mem_map.mpr ⟨(x, none), hx, rfl⟩)
  rw [← e2]
  exact this
theorem mem_fn {i : Nat} {d : He.DefD} (h : fn[i]? = some d) : d ∈ fn := List.mem_of_getElem? h
abbrev TT (K : PySem.W.Frag) : List NTab := tf.map fun p => ((He.cT K p).2, nmAll)
theorem facts {fa0 : Addr} (X : K.In h) (G : h.Ns mainGlobals mg) (c : He.SaysX fa fn [] tf ex w h K) (hfa : mg ("law" : Str) = some (.ref fa0)) : LawAtS PySem.Challenge.rw_buzzround_k60_whole_great_numbers w K CXN 14 63 "script" mg fa0 h := by
  have e0 := hfa.symm.trans (He.glo_ok X G (c.t.d.fact 64 (f := .glo "law") rfl))
  obtain rfl : fa0 = He.ga K "law" := by injection e0 with e0; injection e0
  have T : Bt mg := ⟨(He.free_ok X G (c.t.d.fact 65 (f := .free "len") rfl)), (He.free_ok X G (c.t.d.fact 66 (f := .free "range") rfl)), (He.free_ok X G (c.t.d.fact 67 (f := .free "divmod") rfl)), (He.free_ok X G (c.t.d.fact 68 (f := .free "isinstance") rfl)), (He.free_ok X G (c.t.d.fact 69 (f := .free "int") rfl)), (He.free_ok X G (c.t.d.fact 70 (f := .free "bool") rfl)), (He.free_ok X G (c.t.d.fact 71 (f := .free "sum") rfl)), (He.free_ok X G (c.t.d.fact 72 (f := .free "abs") rfl)), (He.free_ok X G (c.t.d.fact 73 (f := .free "max") rfl)), (He.free_ok X G (c.t.d.fact 74 (f := .free "min") rfl)), (He.free_ok X G (c.t.d.fact 75 (f := .free "list") rfl)), (He.free_ok X G (c.t.d.fact 76 (f := .free "repr") rfl)), (He.free_ok X G (c.t.d.fact 77 (f := .free "tuple") rfl)), (He.free_ok X G (c.t.d.fact 78 (f := .free "str") rfl)), (He.free_ok X G (c.t.d.fact 79 (f := .free "enumerate") rfl)), (He.free_ok X G (c.t.d.fact 80 (f := .free "set") rfl)), (He.free_ok X G (c.t.d.fact 81 (f := .free "zip") rfl)), (He.free_ok X G (c.t.d.fact 82 (f := .free "any") rfl)), (He.free_ok X G (c.t.d.fact 83 (f := .free "all") rfl))⟩
  have I : Its mg := ⟨(He.int_ok X G (c.t.d.fact 85 (f := .int "LEAST_BASE" 2) rfl)), (He.int_ok X G (c.t.d.fact 86 (f := .int "MOST_BASE" 16) rfl)), (He.int_ok X G (c.t.d.fact 87 (f := .int "MOST_SIZE" 200) rfl)), (He.int_ok X G (c.t.d.fact 88 (f := .int "MOST_DIVISOR" 12) rfl))⟩
  obtain ⟨x_cls, y_cls⟩ := He.ba (show (_ && _) = true from c.more)
  obtain ⟨x_get, y_get⟩ := He.ba y_cls
  obtain ⟨x_tak, y_tak⟩ := He.ba y_get
  obtain ⟨x_mro, y_mro⟩ := He.ba y_tak
  obtain ⟨x_kit, y_kit⟩ := He.ba y_mro
  obtain ⟨x_nee, y_nee⟩ := He.ba y_kit
  obtain ⟨x_sub, y_sub⟩ := He.ba y_nee
  obtain ⟨x_slf, y_slf⟩ := He.ba y_sub
  obtain ⟨x_t_BOTH, y_t_BOTH⟩ := He.ba y_slf
  obtain ⟨x_t_EITHER, y_t_EITHER⟩ := He.ba y_t_BOTH
  obtain ⟨x_t_JUST_ONE, y_t_JUST_ONE⟩ := He.ba y_t_EITHER
  have gr : GrC K (He.ga K "Grid") := ⟨He.cls_ok (c.t.d.fact 90 (f := .cls "Grid") rfl), He.noat_ok (c.t.d.fact 113 (f := .noat "Grid" "figures") rfl), He.noat_ok (c.t.d.fact 114 (f := .noat "Grid" "goals") rfl), He.noat_ok (c.t.d.fact 115 (f := .noat "Grid" "marks") rfl)⟩
  have kcl : Cls K (He.ga K "Kind") := He.cls_ok (c.t.d.fact 96 (f := .cls "Kind") rfl)
  have ki : KiC K mg (He.ga K "Grid") (He.ga K "Kind") := ⟨gr, kcl, He.noat_ok (c.t.d.fact 116 (f := .noat "Kind" "grid") rfl), (He.glo_ok X G (c.t.d.fact 10 (f := .glo "Kind") rfl)), fun e => .base (.ins e kcl (He.eqO_ok x_cls) (He.eqO_ok x_get) (of_decide_eq_true x_tak) (of_decide_eq_true x_mro)), of_decide_eq_true x_kit, ⟨He.eqO_ok x_nee, of_decide_eq_true x_sub⟩⟩
  obtain ⟨fd, FL⟩ := (df_of (d := d_law) (st := s_law) c (mem_fn (i := 71) rfl) rfl).ex
  have hTu : ∀ (x : Str) , ∀ q ∈ TT K, q.1 = (He.cT K (x, none)).2 → q.2 = nmAll := fun x q hq _ => by
    obtain ⟨q', _, rfl⟩ := List.mem_map.mp hq
    rfl
  refine ⟨fd, tf.map (He.cT K), spLaw K (TT K), ?_, ?_, ?_, ?_, ?_, ?_⟩
  · intro q hq; obtain ⟨r, hr, rfl⟩ := List.mem_map.mp hq; exact c.empty r hr
  · intro q hq; obtain ⟨r, hr, rfl⟩ := List.mem_map.mp hq; exact c.out r hr
  · intro q hq; obtain ⟨r, hr, rfl⟩ := List.mem_map.mp hq; exact PySem.W.codeHd_of_K X (c.hd r hr)
  · exact fun s v => FunD.bindsA (ps := ["script"]) FL (fun _ _ _ _ _ _ us hl => match us, hl with | [_], _ => rfl) s [v] rfl
  · exact fun H a ns hl _ hH hS => ⟨a, ns, rfl, hS, hl, fun q hq => by
      obtain ⟨r, hr, rfl⟩ := List.mem_map.mp hq
      exact TabN.nil (hH _ (List.mem_map.mpr ⟨r, hr, rfl⟩)), fun _ => rfl⟩
  · intro base _ _ tb
    have G_fig := g_figures_of (P := PySem.Challenge.rw_buzzround_k60_whole_great_numbers.prog) (w := w) (K := K) (mg := mg) (base := base) T (df_of (d := d_figures_of) (st := s_figures_of) c (mem_fn (i := 1) rfl) rfl) (He.glo_ok X G (c.t.d.fact 13 (f := .glo "figures_of") rfl))
    have M_Gi := g_Grid_init (P := PySem.Challenge.rw_buzzround_k60_whole_great_numbers.prog) (w := w) (K := K) (mg := mg) (base := base) gr (df_of (d := d_Grid__init_) (st := s_Grid__init_) c (mem_fn (i := 2) rfl) rfl) (He.mkr_ok (c.t.d.fact 91 (f := .mkr "Grid") rfl)) (He.glo_ok X G (c.t.d.fact 9 (f := .glo "Grid") rfl))
    have M_end := g_end_of (P := PySem.Challenge.rw_buzzround_k60_whole_great_numbers.prog) (w := w) (K := K) (mg := mg) (base := base) T gr (df_of (d := d_Grid_end_of) (st := s_Grid_end_of) c (mem_fn (i := 4) rfl) rfl) (He.meth_ok (c.t.d.fact 94 (f := .meth "Grid" "end_of") rfl)) G_fig
    have M_mark := g_mark_of (P := PySem.Challenge.rw_buzzround_k60_whole_great_numbers.prog) (w := w) (K := K) (mg := mg) (base := base) T gr (df_of (d := d_Grid_mark_of) (st := s_Grid_mark_of) c (mem_fn (i := 5) rfl) rfl) (He.meth_ok (c.t.d.fact 95 (f := .meth "Grid" "mark_of") rfl)) M_end
    have G_cls := g_classes_of (P := PySem.Challenge.rw_buzzround_k60_whole_great_numbers.prog) (w := w) (K := K) (mg := mg) (base := base) kB T (df_of (d := d_classes_of) (st := s_classes_of) c (mem_fn (i := 8) rfl) rfl) (He.glo_ok X G (c.t.d.fact 16 (f := .glo "classes_of") rfl)) (g_numbered kB T (df_of (d := d_numbered) (st := s_numbered) c (mem_fn (i := 7) rfl) rfl) (He.glo_ok X G (c.t.d.fact 15 (f := .glo "numbered") rfl))) (g_numbered kT T (df_of (d := d_numbered) (st := s_numbered) c (mem_fn (i := 7) rfl) rfl) (He.glo_ok X G (c.t.d.fact 15 (f := .glo "numbered") rfl)))
    have G_least := g_least_grid (P := PySem.Challenge.rw_buzzround_k60_whole_great_numbers.prog) (w := w) (K := K) (mg := mg) (base := base) kB T gr (df_of (d := d_least_grid) (st := s_least_grid) c (mem_fn (i := 9) rfl) rfl) (He.glo_ok X G (c.t.d.fact 17 (f := .glo "least_grid") rfl)) G_cls M_Gi
    have G_gridN := g_grid_of (P := PySem.Challenge.rw_buzzround_k60_whole_great_numbers.prog) (w := w) (K := K) (mg := mg) (base := base) kN kB T (df_of (d := d_grid_of) (st := s_grid_of) c (mem_fn (i := 10) rfl) rfl) (He.glo_ok X G (c.t.d.fact 18 (f := .glo "grid_of") rfl)) (g_explored (kc := 2) kN kB T (df_of (d := d_explored) (st := s_explored) c (mem_fn (i := 6) rfl) rfl) (He.glo_ok X G (c.t.d.fact 14 (f := .glo "explored") rfl))) G_least
    have G_gridB := g_grid_of (P := PySem.Challenge.rw_buzzround_k60_whole_great_numbers.prog) (w := w) (K := K) (mg := mg) (base := base) kB kB T (df_of (d := d_grid_of) (st := s_grid_of) c (mem_fn (i := 10) rfl) rfl) (He.glo_ok X G (c.t.d.fact 18 (f := .glo "grid_of") rfl)) (g_explored (kc := 2) kB kB T (df_of (d := d_explored) (st := s_explored) c (mem_fn (i := 6) rfl) rfl) (He.glo_ok X G (c.t.d.fact 14 (f := .glo "explored") rfl))) G_least
    have G_wh := g_is_whole (P := PySem.Challenge.rw_buzzround_k60_whole_great_numbers.prog) (w := w) (K := K) (mg := mg) (base := base) T (df_of (d := d_is_whole) (st := s_is_whole) c (mem_fn (i := 29) rfl) rfl) (He.glo_ok X G (c.t.d.fact 37 (f := .glo "is_whole") rfl))
    have G_cb := g_check_base (P := PySem.Challenge.rw_buzzround_k60_whole_great_numbers.prog) (w := w) (K := K) (mg := mg) (base := base) T I (df_of (d := d_check_base) (st := s_check_base) c (mem_fn (i := 31) rfl) rfl) (He.glo_ok X G (c.t.d.fact 39 (f := .glo "check_base") rfl)) G_wh
    have G_cd := g_check_divisor (P := PySem.Challenge.rw_buzzround_k60_whole_great_numbers.prog) (w := w) (K := K) (mg := mg) (base := base) T I (df_of (d := d_check_divisor) (st := s_check_divisor) c (mem_fn (i := 48) rfl) rfl) (He.glo_ok X G (c.t.d.fact 41 (f := .glo "check_divisor") rfl)) G_wh
    have G_cr := g_check_rest (P := PySem.Challenge.rw_buzzround_k60_whole_great_numbers.prog) (w := w) (K := K) (mg := mg) (base := base) T (df_of (d := d_check_rest) (st := s_check_rest) c (mem_fn (i := 49) rfl) rfl) (He.glo_ok X G (c.t.d.fact 42 (f := .glo "check_rest") rfl)) G_wh
    have G_cf := g_check_figure (P := PySem.Challenge.rw_buzzround_k60_whole_great_numbers.prog) (w := w) (K := K) (mg := mg) (base := base) T (df_of (d := d_check_figure) (st := s_check_figure) c (mem_fn (i := 50) rfl) rfl) (He.glo_ok X G (c.t.d.fact 43 (f := .glo "check_figure") rfl)) G_wh
    have M_Ki := g_Kind_init (P := PySem.Challenge.rw_buzzround_k60_whole_great_numbers.prog) (w := w) (K := K) (mg := mg) (base := base) ki (df_of (d := d_Kind__init_) (st := s_Kind__init_) c (mem_fn (i := 32) rfl) rfl) (He.mkr_ok (c.t.d.fact 97 (f := .mkr "Kind") rfl))
    have D_rest := (dfT_of (d := d_rest) (x := "rest") (st := s_rest) c (mem_fn (i := 52) rfl) rfl tb (List.mem_of_getElem? (i := 0) rfl))
    have G_rest := g_rest (P := PySem.Challenge.rw_buzzround_k60_whole_great_numbers.prog) (w := w) (K := K) (mg := mg) (base := base) (TT' := TT K) T I ki D_rest (List.mem_map.mpr ⟨("rest", none), List.mem_of_getElem? (i := 0) rfl, rfl⟩) (hTu "rest") (He.glo_ok X G (c.t.d.fact 45 (f := .glo "rest") rfl)) G_cb G_cd G_cr G_gridN M_Ki
    have D_figure_sum := (dfT_of (d := d_figure_sum) (x := "figure_sum") (st := s_figure_sum) c (mem_fn (i := 53) rfl) rfl tb (List.mem_of_getElem? (i := 1) rfl))
    have G_figure_sum := g_figure_sum (P := PySem.Challenge.rw_buzzround_k60_whole_great_numbers.prog) (w := w) (K := K) (mg := mg) (base := base) (TT' := TT K) T I ki D_figure_sum (List.mem_map.mpr ⟨("figure_sum", none), List.mem_of_getElem? (i := 1) rfl, rfl⟩) (hTu "figure_sum") (He.glo_ok X G (c.t.d.fact 46 (f := .glo "figure_sum") rfl)) G_cb G_cd G_cr G_gridN M_Ki
    have D_bears := (dfT_of (d := d_bears) (x := "bears") (st := s_bears) c (mem_fn (i := 54) rfl) rfl tb (List.mem_of_getElem? (i := 2) rfl))
    have G_bears := g_bears (P := PySem.Challenge.rw_buzzround_k60_whole_great_numbers.prog) (w := w) (K := K) (mg := mg) (base := base) (TT' := TT K) T I ki D_bears (List.mem_map.mpr ⟨("bears", none), List.mem_of_getElem? (i := 2) rfl, rfl⟩) (hTu "bears") (He.glo_ok X G (c.t.d.fact 47 (f := .glo "bears") rfl)) G_cb G_cf G_gridB M_Ki
    have D_ends := (dfT_of (d := d_ends) (x := "ends") (st := s_ends) c (mem_fn (i := 55) rfl) rfl tb (List.mem_of_getElem? (i := 3) rfl))
    have G_ends := g_ends (P := PySem.Challenge.rw_buzzround_k60_whole_great_numbers.prog) (w := w) (K := K) (mg := mg) (base := base) (TT' := TT K) T I ki D_ends (List.mem_map.mpr ⟨("ends", none), List.mem_of_getElem? (i := 3) rfl, rfl⟩) (hTu "ends") (He.glo_ok X G (c.t.d.fact 48 (f := .glo "ends") rfl)) G_cb G_cf G_gridB M_Ki
    have D_every := (dfT_of (d := d_every) (x := "every") (st := s_every) c (mem_fn (i := 56) rfl) rfl tb (List.mem_of_getElem? (i := 4) rfl))
    have G_every := g_every (P := PySem.Challenge.rw_buzzround_k60_whole_great_numbers.prog) (w := w) (K := K) (mg := mg) (base := base) (TT' := TT K) T I ki D_every (List.mem_map.mpr ⟨("every", none), List.mem_of_getElem? (i := 4) rfl, rfl⟩) (hTu "every") (He.glo_ok X G (c.t.d.fact 49 (f := .glo "every") rfl)) G_cb G_gridB M_Ki
    have D_counted_levels := (dfT_of (d := d_counted_levels) (x := "counted_levels") (st := s_counted_levels) c (mem_fn (i := 19) rfl) rfl tb (List.mem_of_getElem? (i := 5) rfl))
    have D_next_number := (dfT_of (d := d_next_number) (x := "next_number") (st := s_next_number) c (mem_fn (i := 25) rfl) rfl tb (List.mem_of_getElem? (i := 6) rfl))
    have G_multiple := g_multiple (P := PySem.Challenge.rw_buzzround_k60_whole_great_numbers.prog) (w := w) (K := K) (mg := mg) (base := base) (df_of (d := d_multiple) (st := s_multiple) c (mem_fn (i := 51) rfl) rfl) (He.glo_ok X G (c.t.d.fact 44 (f := .glo "multiple") rfl)) G_cb G_cd G_rest
    have G_cfg := g_check_figures (P := PySem.Challenge.rw_buzzround_k60_whole_great_numbers.prog) (w := w) (K := K) (mg := mg) (base := base) gr (df_of (d := d_check_figures) (st := s_check_figures) c (mem_fn (i := 16) rfl) rfl) (He.glo_ok X G (c.t.d.fact 24 (f := .glo "check_figures") rfl))
    have G_prs := g_paired_rows (P := PySem.Challenge.rw_buzzround_k60_whole_great_numbers.prog) (w := w) (K := K) (mg := mg) (base := base) T gr (df_of (d := d_paired_rows) (st := s_paired_rows) c (mem_fn (i := 15) rfl) rfl) (He.glo_ok X G (c.t.d.fact 23 (f := .glo "paired_rows") rfl))
    have G_join := g_joined_grid (P := PySem.Challenge.rw_buzzround_k60_whole_great_numbers.prog) (w := w) (K := K) (mg := mg) (base := base) T gr (df_of (d := d_joined_grid) (st := s_joined_grid) c (mem_fn (i := 17) rfl) rfl) (He.glo_ok X G (c.t.d.fact 25 (f := .glo "joined_grid") rfl)) G_cfg G_prs G_least
    have G_opp := g_opposite_grid (P := PySem.Challenge.rw_buzzround_k60_whole_great_numbers.prog) (w := w) (K := K) (mg := mg) (base := base) T gr (df_of (d := d_opposite_grid) (st := s_opposite_grid) c (mem_fn (i := 18) rfl) rfl) (He.glo_ok X G (c.t.d.fact 26 (f := .glo "opposite_grid") rfl)) M_Gi
    have M_and := g_Kand (P := PySem.Challenge.rw_buzzround_k60_whole_great_numbers.prog) (w := w) (K := K) (mg := mg) (base := base) I ki (df_of (d := d_Kind__and_) (st := s_Kind__and_) c (mem_fn (i := 34) rfl) rfl) (He.meth_ok (c.t.d.fact 100 (f := .meth "Kind" "__and__") rfl)) (He.glo_ok X G (c.t.d.fact 117 (f := .glo "BOTH") rfl)) (He.tupB_ok x_t_BOTH) G_join M_Ki
    have M_or := g_Kor (P := PySem.Challenge.rw_buzzround_k60_whole_great_numbers.prog) (w := w) (K := K) (mg := mg) (base := base) I ki (df_of (d := d_Kind__or_) (st := s_Kind__or_) c (mem_fn (i := 35) rfl) rfl) (He.meth_ok (c.t.d.fact 101 (f := .meth "Kind" "__or__") rfl)) (He.glo_ok X G (c.t.d.fact 118 (f := .glo "EITHER") rfl)) (He.tupB_ok x_t_EITHER) G_join M_Ki
    have M_xor := g_Kxor (P := PySem.Challenge.rw_buzzround_k60_whole_great_numbers.prog) (w := w) (K := K) (mg := mg) (base := base) I ki (df_of (d := d_Kind__xor_) (st := s_Kind__xor_) c (mem_fn (i := 36) rfl) rfl) (He.meth_ok (c.t.d.fact 102 (f := .meth "Kind" "__xor__") rfl)) (He.glo_ok X G (c.t.d.fact 119 (f := .glo "JUST_ONE") rfl)) (He.tupB_ok x_t_JUST_ONE) G_join M_Ki
    have M_inv := g_Kinv (P := PySem.Challenge.rw_buzzround_k60_whole_great_numbers.prog) (w := w) (K := K) (mg := mg) (base := base) ki (df_of (d := d_Kind__invert_) (st := s_Kind__invert_) c (mem_fn (i := 37) rfl) rfl) (He.meth_ok (c.t.d.fact 103 (f := .meth "Kind" "__invert__") rfl)) G_opp M_Ki
    have O := KOps.mk x_slf M_and M_or M_xor M_inv
    have G_pow := g_power_of (P := PySem.Challenge.rw_buzzround_k60_whole_great_numbers.prog) (w := w) (K := K) (mg := mg) (base := base) T (df_of (d := d_power_of) (st := s_power_of) c (mem_fn (i := 0) rfl) rfl) (He.glo_ok X G (c.t.d.fact 12 (f := .glo "power_of") rfl))
    have G_levf := g_levels_for (P := PySem.Challenge.rw_buzzround_k60_whole_great_numbers.prog) (w := w) (K := K) (mg := mg) (base := base) T (df_of (d := d_levels_for) (st := s_levels_for) c (mem_fn (i := 14) rfl) rfl) (He.glo_ok X G (c.t.d.fact 22 (f := .glo "levels_for") rfl)) G_fig
    have G_parts := g_parts_of (P := PySem.Challenge.rw_buzzround_k60_whole_great_numbers.prog) (w := w) (K := K) (mg := mg) (base := base) T gr (df_of (d := d_parts_of) (st := s_parts_of) c (mem_fn (i := 13) rfl) rfl) (He.glo_ok X G (c.t.d.fact 21 (f := .glo "parts_of") rfl)) G_pow
    have G_strup := g_stretches_upto (P := PySem.Challenge.rw_buzzround_k60_whole_great_numbers.prog) (w := w) (K := K) (mg := mg) (base := base) T gr (df_of (d := d_stretches_upto) (st := s_stretches_upto) c (mem_fn (i := 12) rfl) rfl) (He.glo_ok X G (c.t.d.fact 20 (f := .glo "stretches_upto") rfl)) G_fig G_pow
    have G_strlev := g_stretch_levels (P := PySem.Challenge.rw_buzzround_k60_whole_great_numbers.prog) (w := w) (K := K) (mg := mg) (base := base) kB kN (kc := 2) T gr (df_of (d := d_stretch_levels) (st := s_stretch_levels) c (mem_fn (i := 11) rfl) rfl) (He.glo_ok X G (c.t.d.fact 19 (f := .glo "stretch_levels") rfl))
    have G_counted := g_counted_levels (P := PySem.Challenge.rw_buzzround_k60_whole_great_numbers.prog) (w := w) (K := K) (mg := mg) (base := base) (TT' := TT K) T D_counted_levels (List.mem_map.mpr ⟨("counted_levels", none), List.mem_of_getElem? (i := 5) rfl, rfl⟩) (hTu "counted_levels") (He.glo_ok X G (c.t.d.fact 27 (f := .glo "counted_levels") rfl)) G_strlev
    have G_cup := g_count_upto (P := PySem.Challenge.rw_buzzround_k60_whole_great_numbers.prog) (w := w) (K := K) (mg := mg) (base := base) T gr (df_of (d := d_count_upto) (st := s_count_upto) c (mem_fn (i := 20) rfl) rfl) (He.glo_ok X G (c.t.d.fact 28 (f := .glo "count_upto") rfl)) G_counted G_levf G_strup
    have G_nat := g_number_at (P := PySem.Challenge.rw_buzzround_k60_whole_great_numbers.prog) (w := w) (K := K) (mg := mg) (base := base) T gr (He.int_ok X G (c.t.d.fact 89 (f := .int "MOST_NUMBER" 10000000000000000000000000000000000000000) rfl)) (df_of (d := d_number_at) (st := s_number_at) c (mem_fn (i := 21) rfl) rfl) (He.glo_ok X G (c.t.d.fact 29 (f := .glo "number_at") rfl)) G_counted G_levf G_strup G_parts
    have G_isn := g_is_number (P := PySem.Challenge.rw_buzzround_k60_whole_great_numbers.prog) (w := w) (K := K) (mg := mg) (base := base) T (He.int_ok X G (c.t.d.fact 89 (f := .int "MOST_NUMBER" 10000000000000000000000000000000000000000) rfl)) (df_of (d := d_is_number) (st := s_is_number) c (mem_fn (i := 30) rfl) rfl) (He.glo_ok X G (c.t.d.fact 38 (f := .glo "is_number") rfl)) G_wh
    have G_ckn := g_check_number (P := PySem.Challenge.rw_buzzround_k60_whole_great_numbers.prog) (w := w) (K := K) (mg := mg) (base := base) T (df_of (d := d_check_number) (st := s_check_number) c (mem_fn (i := 47) rfl) rfl) (He.glo_ok X G (c.t.d.fact 40 (f := .glo "check_number") rfl)) G_isn
    have M_count := g_Kcount (P := PySem.Challenge.rw_buzzround_k60_whole_great_numbers.prog) (w := w) (K := K) (mg := mg) (base := base) ki (df_of (d := d_Kind_count) (st := s_Kind_count) c (mem_fn (i := 41) rfl) rfl) (He.meth_ok (c.t.d.fact 107 (f := .meth "Kind" "count") rfl)) G_ckn G_cup
    have G_sts := g_states_upto (P := PySem.Challenge.rw_buzzround_k60_whole_great_numbers.prog) (w := w) (K := K) (mg := mg) (base := base) gr (df_of (d := d_states_upto) (st := s_states_upto) c (mem_fn (i := 23) rfl) rfl) (He.glo_ok X G (c.t.d.fact 31 (f := .glo "states_upto") rfl))
    have G_gre := g_greater_stretches (P := PySem.Challenge.rw_buzzround_k60_whole_great_numbers.prog) (w := w) (K := K) (mg := mg) (base := base) T gr (df_of (d := d_greater_stretches) (st := s_greater_stretches) c (mem_fn (i := 24) rfl) rfl) (He.glo_ok X G (c.t.d.fact 32 (f := .glo "greater_stretches") rfl)) G_fig G_pow G_sts
    have G_lew := g_least_within (P := PySem.Challenge.rw_buzzround_k60_whole_great_numbers.prog) (w := w) (K := K) (mg := mg) (base := base) T gr (df_of (d := d_least_within) (st := s_least_within) c (mem_fn (i := 22) rfl) rfl) (He.glo_ok X G (c.t.d.fact 30 (f := .glo "least_within") rfl)) G_parts
    have M_width := g_width (P := PySem.Challenge.rw_buzzround_k60_whole_great_numbers.prog) (w := w) (K := K) (mg := mg) (base := base) T gr (df_of (d := d_Grid_width) (st := s_Grid_width) c (mem_fn (i := 3) rfl) rfl) (He.meth_ok (c.t.d.fact 93 (f := .meth "Grid" "width") rfl))
    have G_strlevB := g_stretch_levels (P := PySem.Challenge.rw_buzzround_k60_whole_great_numbers.prog) (w := w) (K := K) (mg := mg) (base := base) kB kB (kc := 2) T gr (df_of (d := d_stretch_levels) (st := s_stretch_levels) c (mem_fn (i := 11) rfl) rfl) (He.glo_ok X G (c.t.d.fact 19 (f := .glo "stretch_levels") rfl))
    have G_next := g_next_number (P := PySem.Challenge.rw_buzzround_k60_whole_great_numbers.prog) (w := w) (K := K) (mg := mg) (base := base) (TT' := TT K) T gr D_next_number (List.mem_map.mpr ⟨("next_number", none), List.mem_of_getElem? (i := 6) rfl, rfl⟩) (hTu "next_number") (He.glo_ok X G (c.t.d.fact 33 (f := .glo "next_number") rfl)) G_levf M_width G_strlevB G_gre G_lew
    have M_after := g_Kafter (P := PySem.Challenge.rw_buzzround_k60_whole_great_numbers.prog) (w := w) (K := K) (mg := mg) (base := base) ki (df_of (d := d_Kind_after) (st := s_Kind_after) c (mem_fn (i := 43) rfl) rfl) (He.meth_ok (c.t.d.fact 109 (f := .meth "Kind" "after") rfl)) G_ckn G_next
    have G_len := g_least_number (P := PySem.Challenge.rw_buzzround_k60_whole_great_numbers.prog) (w := w) (K := K) (mg := mg) (base := base) T (df_of (d := d_least_number) (st := s_least_number) c (mem_fn (i := 26) rfl) rfl) (He.glo_ok X G (c.t.d.fact 34 (f := .glo "least_number") rfl))
    have G_let := g_least_told (P := PySem.Challenge.rw_buzzround_k60_whole_great_numbers.prog) (w := w) (K := K) (mg := mg) (base := base) T gr (df_of (d := d_least_told) (st := s_least_told) c (mem_fn (i := 27) rfl) rfl) (He.glo_ok X G (c.t.d.fact 35 (f := .glo "least_told") rfl)) G_len
    have M_least := g_Kleast (P := PySem.Challenge.rw_buzzround_k60_whole_great_numbers.prog) (w := w) (K := K) (mg := mg) (base := base) ki (df_of (d := d_Kind_least) (st := s_Kind_least) c (mem_fn (i := 44) rfl) rfl) (He.meth_ok (c.t.d.fact 110 (f := .meth "Kind" "least") rfl)) G_let
    have M_nth := g_Knth (P := PySem.Challenge.rw_buzzround_k60_whole_great_numbers.prog) (w := w) (K := K) (mg := mg) (base := base) ki (df_of (d := d_Kind_nth) (st := s_Kind_nth) c (mem_fn (i := 42) rfl) rfl) (He.meth_ok (c.t.d.fact 108 (f := .meth "Kind" "nth") rfl)) G_isn G_nat
    have L_bag := g_law_bag (P := PySem.Challenge.rw_buzzround_k60_whole_great_numbers.prog) (w := w) (K := K) (mg := mg) (base := base) T (df_of (d := d_law_bag) (st := s_law_bag) c (mem_fn (i := 57) rfl) rfl) (He.glo_ok X G (c.t.d.fact 50 (f := .glo "_law_bag") rfl))
    have L_draw := g_law_draw (P := PySem.Challenge.rw_buzzround_k60_whole_great_numbers.prog) (w := w) (K := K) (mg := mg) (base := base) T (df_of (d := d_law_draw) (st := s_law_draw) c (mem_fn (i := 58) rfl) rfl) (He.glo_ok X G (c.t.d.fact 51 (f := .glo "_law_draw") rfl))
    have L_great := g_law_great (P := PySem.Challenge.rw_buzzround_k60_whole_great_numbers.prog) (w := w) (K := K) (mg := mg) (base := base) T (df_of (d := d_law_great) (st := s_law_great) c (mem_fn (i := 59) rfl) rfl) (He.glo_ok X G (c.t.d.fact 52 (f := .glo "_law_great") rfl)) L_draw
    have L_figs := g_law_figures (P := PySem.Challenge.rw_buzzround_k60_whole_great_numbers.prog) (w := w) (K := K) (mg := mg) (base := base) T (df_of (d := d_law_figures) (st := s_law_figures) c (mem_fn (i := 60) rfl) rfl) (He.glo_ok X G (c.t.d.fact 53 (f := .glo "_law_figures") rfl))
    have L_plain := g_law_plain (P := PySem.Challenge.rw_buzzround_k60_whole_great_numbers.prog) (w := w) (K := K) (mg := mg) (base := base) T (df_of (d := d_law_plain) (st := s_law_plain) c (mem_fn (i := 64) rfl) rfl) (He.glo_ok X G (c.t.d.fact 57 (f := .glo "_law_plain") rfl)) L_draw
    have L_test := g_law_test (P := PySem.Challenge.rw_buzzround_k60_whole_great_numbers.prog) (w := w) (K := K) (mg := mg) (base := base) T (df_of (d := d_law_test) (st := s_law_test) c (mem_fn (i := 65) rfl) rfl) (He.glo_ok X G (c.t.d.fact 58 (f := .glo "_law_test") rfl)) L_draw L_plain
    have L_kind := fun d => g_law_kind (P := PySem.Challenge.rw_buzzround_k60_whole_great_numbers.prog) (w := w) (K := K) (mg := mg) (base := base) T (df_of (d := d_law_kind) (st := s_law_kind) c (mem_fn (i := 62) rfl) rfl) (He.glo_ok X G (c.t.d.fact 55 (f := .glo "_law_kind") rfl)) O G_multiple G_rest G_figure_sum G_bears G_ends G_every d
    have L_in := fun d => g_law_inR (P := PySem.Challenge.rw_buzzround_k60_whole_great_numbers.prog) (w := w) (K := K) (mg := mg) (base := base) T (df_of (d := d_law_in) (st := s_law_in) c (mem_fn (i := 61) rfl) rfl) (He.glo_ok X G (c.t.d.fact 54 (f := .glo "_law_in") rfl)) L_figs d
    have L_pool := g_law_poolM (P := PySem.Challenge.rw_buzzround_k60_whole_great_numbers.prog) (w := w) (K := K) (mg := mg) (base := base) T (df_of (d := d_law_pool) (st := s_law_pool) c (mem_fn (i := 63) rfl) rfl) (He.glo_ok X G (c.t.d.fact 56 (f := .glo "_law_pool") rfl)) L_draw
    have L_is := g_law_is (P := PySem.Challenge.rw_buzzround_k60_whole_great_numbers.prog) (w := w) (K := K) (mg := mg) (base := base) T (df_of (d := d_law_is) (st := s_law_is) c (mem_fn (i := 66) rfl) rfl) (He.glo_ok X G (c.t.d.fact 59 (f := .glo "_law_is") rfl))
    have L_add := g_law_add_up (P := PySem.Challenge.rw_buzzround_k60_whole_great_numbers.prog) (w := w) (K := K) (mg := mg) (base := base) T ki O (df_of (d := d_law_add_up) (st := s_law_add_up) c (mem_fn (i := 67) rfl) rfl) (He.glo_ok X G (c.t.d.fact 60 (f := .glo "_law_add_up") rfl)) L_is M_count
    have L_near := g_law_near (P := PySem.Challenge.rw_buzzround_k60_whole_great_numbers.prog) (w := w) (K := K) (mg := mg) (base := base) T ki (df_of (d := d_law_near) (st := s_law_near) c (mem_fn (i := 68) rfl) rfl) (He.glo_ok X G (c.t.d.fact 61 (f := .glo "_law_near") rfl)) L_draw (L_in 5) L_is M_count M_after M_nth
    have L_sums := g_law_by_sums (P := PySem.Challenge.rw_buzzround_k60_whole_great_numbers.prog) (w := w) (K := K) (mg := mg) (base := base) T ki (df_of (d := d_law_by_sums) (st := s_law_by_sums) c (mem_fn (i := 69) rfl) rfl) (He.glo_ok X G (c.t.d.fact 62 (f := .glo "_law_by_sums") rfl)) L_is M_count M_after M_nth M_least
    have L_right := g_law_right (P := PySem.Challenge.rw_buzzround_k60_whole_great_numbers.prog) (w := w) (K := K) (mg := mg) (base := base) T ki (df_of (d := d_law_right) (st := s_law_right) c (mem_fn (i := 70) rfl) rfl) (He.glo_ok X G (c.t.d.fact 63 (f := .glo "_law_right") rfl)) L_draw L_pool L_test (L_kind 5) L_great L_add L_near L_sums G_rest G_multiple G_every G_ends
    have L_law := g_law (P := PySem.Challenge.rw_buzzround_k60_whole_great_numbers.prog) (w := w) (K := K) (mg := mg) (base := base) T (df_of (d := d_law) (st := s_law) c (mem_fn (i := 71) rfl) rfl) (He.glo_ok X G (c.t.d.fact 64 (f := .glo "law") rfl)) L_bag L_right
    obtain ⟨f', fd', a, b, _, _, oc, od, osl, lk⟩ := L_law.ex
    rw [hfa] at b
    obtain rfl : He.ga K "law" = f' := by injection b with b; injection b
    obtain ⟨oc2, od2, dV, kV, doc, pm, an, cdv, ct, osl2, efd, lk2, _⟩ := FL.ex
    have lk2 : K.lookup (He.ga K "law") = _ := lk2
    rw [lk] at lk2
    obtain rfl : fd' = fd := by injection lk2 with z; injection z with _ _ z _; injection z with z
    exact a
end
end BzH
open PySem PySem.W PySem.Calls PyProof.Rows
theorem PySem.Challenge.cw_buzzround_k60_whole_great_numbers_holds : PySem.Challenge.rw_buzzround_k60_whole_great_numbers.Holds := by
  w_on; o_law
  refine HandSHeadRun.head_any (r := OpenLaw.row PySem.Challenge.rw_buzzround_k60_whole_great_numbers) (q := view (OpenLaw.row PySem.Challenge.rw_buzzround_k60_whole_great_numbers).prog [79]) (H := BzH.hk) (ob := BzH.ob) (M := 6000) (loose := BzH.loose) (d := HandSHeadRun.topDef (OpenLaw.row PySem.Challenge.rw_buzzround_k60_whole_great_numbers).prog 79) (kwd := []) BzH.ob_eq
    (by kernel_rfl) (fun s => by kernel_rfl) BzH.run (by kernel_rfl) (by kernel_rfl) (by kernel_rfl) (by rfl) (by first | assumption | decide +kernel) (by decide +kernel) ⟨rfl, rfl, rfl, rfl, rfl, by decide +kernel⟩ ?hw ?hc
  case hw => w_witness2
  case hc =>
    refine LamX.walk_ofTsE (l := PySem.Challenge.rw_buzzround_k60_whole_great_numbers) (n := 63) (k := 14) (x := "script") (CX := fun _ => Bz.CXN) rfl (by decide) (by kernel_rfl) ⟨rfl, by decide, by decide⟩ ?F (fun _ _ _ _ _ z => z)
    intro w mg fa h Y G hmg0
    obtain ⟨K, KX, c⟩ := Y
    have hmg : mg ("law" : PySem.Str) = some (.ref fa) := by
      have e : (HandSHeadRun.topDef (OpenLaw.row PySem.Challenge.rw_buzzround_k60_whole_great_numbers).prog 79).name = ("law" : PySem.Str) := by kernel_rfl
      rw [← e]
      exact hmg0
    exact ⟨K, KX, BzH.facts KX G c hmg⟩
end
