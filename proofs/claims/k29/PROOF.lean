import PyProof.Rows.All
import Wide.All
import OpenK.AllK
import Wide.FinOn
import KE.KRevSl
import KE.GoesMore
import PyProof.ListCopy
import PyProof.EnumMake
import PyProof.Draws
import HandS.Base
import HandS.Call
import HandS.List
import HandS.Iter
import KE.KDictDisplayH
import HandS.Dict
import HandS.TupSets
import KE.KStateDown
import Lean
import HandS.Comp
import HandS.Ends
import HandS.More
import HandS.Conv
import HandS.Words
import HandS.WordsList
import HandS.WordsDict
import HandS.WordsExc
import HandS.Defaults
import HandS.Star
import HandS.Zip
import HandS.TupAny
import HandS.TupLe
import HandS.IsInst
import HandS.Evl
import PySem.Challenge.RW_walledin_k29_whole_days
import HandS.Walk
import HandS.Steps
import HandS.Head0
import HandS.Head1
import HandS.Head2
import HandS.HeadEnd
import HandS.HeadHook1
import HandS.HeadHook2
set_option linter.all false
/-! Walls: rooms come to, plans and their days: plain lists and numbers. -/
namespace WM
open Classical

abbrev Wl := Nat × Nat × Nat
def sides (w : Wl) : List Nat := if w.2.2 = 0 then [w.1] else if w.2.2 = 1 then [w.2.1] else [w.1, w.2.1]
def oth (w : Wl) (s : Nat) : Nat := w.1 + w.2.1 - s
/-- a wall of a yard with n rooms -/
def WOk (n : Nat) (w : Wl) : Prop := w.1 < w.2.1 ∧ w.2.1 < n ∧ w.2.2 ≤ 2
def Good (n : Nat) (ws : List Wl) : Prop := 1 ≤ n ∧ ∀ w ∈ ws, WOk n w

theorem side_end {w : Wl} {r : Nat} (h : r ∈ sides w) : r = w.1 ∨ r = w.2.1 := by
  unfold sides at h
  split at h
  · left; simpa using h
  · split at h
    · right; simpa using h
    · simpa using h
theorem oth_end {w : Wl} {r : Nat} (h : r ∈ sides w) : (r = w.1 ∧ oth w r = w.2.1) ∨ (r = w.2.1 ∧ oth w r = w.1) := by
  unfold oth
  rcases side_end h with e | e
  · left; omega
  · right; omega
theorem oth_lt {n : Nat} {w : Wl} {r : Nat} (ok : WOk n w) (h : r ∈ sides w) : oth w r < n := by
  obtain ⟨a, b, c⟩ := ok
  rcases oth_end h with ⟨_, e⟩ | ⟨_, e⟩ <;> omega

/-- from outside to a room through so many gaps of a lot -/
inductive Path (ws : List Wl) (lot : List Nat) : Nat → Nat → Prop
  | zero : Path ws lot 0 0
  | step {r d k : Nat} {w : Wl} : Path ws lot r d → k ∈ lot → ws[k]? = some w → r ∈ sides w → Path ws lot (oth w r) (d + 1)
def Reach (ws : List Wl) (lot : List Nat) (r : Nat) : Prop := ∃ d, Path ws lot r d
def Rdy (ws : List Wl) (lot : List Nat) (k : Nat) : Prop := ∃ w, ws[k]? = some w ∧ ∃ r, r ∈ sides w ∧ Reach ws lot r

theorem Path.mono {ws : List Wl} {l1 l2 : List Nat} (h : ∀ x ∈ l1, x ∈ l2) {r d : Nat} (p : Path ws l1 r d) : Path ws l2 r d := by
  induction p with
  | zero => exact .zero
  | step _ hk hw hr ih => exact .step ih (h _ hk) hw hr
theorem Reach.mono {ws : List Wl} {l1 l2 : List Nat} (h : ∀ x ∈ l1, x ∈ l2) {r : Nat} : Reach ws l1 r → Reach ws l2 r := fun ⟨d, p⟩ => ⟨d, p.mono h⟩
theorem Rdy.mono {ws : List Wl} {l1 l2 : List Nat} (h : ∀ x ∈ l1, x ∈ l2) {k : Nat} : Rdy ws l1 k → Rdy ws l2 k := fun ⟨w, hw, r, hr, p⟩ => ⟨w, hw, r, hr, p.mono h⟩
theorem Reach.zero {ws : List Wl} {lot : List Nat} : Reach ws lot 0 := ⟨0, .zero⟩
theorem Reach.step {ws : List Wl} {lot : List Nat} {r k : Nat} {w : Wl} (p : Reach ws lot r) (hk : k ∈ lot) (hw : ws[k]? = some w) (hr : r ∈ sides w) : Reach ws lot (oth w r) := by
  obtain ⟨d, p⟩ := p
  exact ⟨d + 1, .step p hk hw hr⟩
theorem Reach.lt {n : Nat} {ws : List Wl} (g : Good n ws) {lot : List Nat} {r : Nat} (p : Reach ws lot r) : r < n := by
  obtain ⟨d, p⟩ := p
  cases p with
  | zero => exact g.1
  | step p hk hw hr => exact oth_lt (g.2 _ (List.mem_of_getElem? hw)) hr

/-- a list with outside, closed under the lot's gaps, all come to, is the rooms come to -/
def Closed (ws : List Wl) (lot found : List Nat) : Prop := ∀ k ∈ lot, ∀ w, ws[k]? = some w → ∀ r ∈ sides w, r ∈ found → oth w r ∈ found
theorem closed_reach {ws : List Wl} {lot found : List Nat} (h0 : 0 ∈ found) (hc : Closed ws lot found) {r : Nat} (p : Reach ws lot r) : r ∈ found := by
  obtain ⟨d, p⟩ := p
  induction p with
  | zero => exact h0
  | step _ hk hw hr ih => exact hc _ hk _ hw _ hr ih

/-! ### pigeons -/
theorem pigeon : ∀ (l D : List Nat), l.Nodup → (∀ x ∈ l, x ∈ D) → l.length ≤ D.length
  | [], _, _, _ => Nat.zero_le _
  | x :: l, D, hn, hs => by
    obtain ⟨h1, h2⟩ := List.nodup_cons.mp hn
    have hx : x ∈ D := hs x (List.mem_cons_self ..)
    have := pigeon l (D.erase x) h2 fun y hy => by
      refine (List.mem_erase_of_ne fun e => ?_).mpr (hs y (List.mem_cons_of_mem _ hy))
      rw [e] at hy
      exact h1 hy
    rw [List.length_erase_of_mem hx] at this
    have hp := List.length_pos_of_mem hx
    rw [List.length_cons]
    omega
theorem pigeon_lt {l : List Nat} {n : Nat} (hn : l.Nodup) (hs : ∀ x ∈ l, x < n) : l.length ≤ n := by
  have := pigeon l (List.range n) hn fun x hx => List.mem_range.mpr (hs x hx)
  rwa [List.length_range] at this

/-! ### least distances -/
def MinD (ws : List Wl) (lot : List Nat) (r d : Nat) : Prop := Path ws lot r d ∧ ∀ e, e < d → ¬ Path ws lot r e
theorem least {P : Nat → Prop} : ∀ n, P n → ∃ k, k ≤ n ∧ P k ∧ ∀ j, j < k → ¬ P j := by
  intro n
  induction n using Nat.strongRecOn with
  | _ n ih =>
    intro h
    by_cases q : ∃ m, m < n ∧ P m
    · obtain ⟨m, hm, hp⟩ := q
      obtain ⟨k, hk, r⟩ := ih m hm hp
      exact ⟨k, by omega, r⟩
    · exact ⟨n, Nat.le_refl _, h, fun j hj hp => q ⟨j, hj, hp⟩⟩
theorem MinD.of {ws : List Wl} {lot : List Nat} {r d : Nat} (p : Path ws lot r d) : ∃ e, e ≤ d ∧ MinD ws lot r e := by
  obtain ⟨k, hk, hp, hm⟩ := least (P := fun e => Path ws lot r e) d p
  exact ⟨k, hk, hp, hm⟩
theorem MinD.uniq {ws : List Wl} {lot : List Nat} {r d e : Nat} (a : MinD ws lot r d) (b : MinD ws lot r e) : d = e := by
  rcases Nat.lt_trichotomy d e with h | h | h
  · exact absurd a.1 (b.2 d h)
  · exact h
  · exact absurd b.1 (a.2 e h)
theorem MinD.zero {ws : List Wl} {lot : List Nat} : MinD ws lot 0 0 := ⟨.zero, fun e h => by omega⟩
/-- the room ahead on a shortest way -/
theorem MinD.back {ws : List Wl} {lot : List Nat} {r d : Nat} (a : MinD ws lot r (d + 1)) : ∃ u k w, MinD ws lot u d ∧ k ∈ lot ∧ ws[k]? = some w ∧ u ∈ sides w ∧ r = oth w u := by
  obtain ⟨p, hm⟩ := a
  cases p with
  | @step u _ k w p hk hw hr =>
    refine ⟨u, k, w, ⟨p, fun e he q => ?_⟩, hk, hw, hr, rfl⟩
    exact hm (e + 1) (by omega) (.step q hk hw hr)
theorem MinD.chain {ws : List Wl} {lot : List Nat} : ∀ (d r : Nat), MinD ws lot r d → ∃ l : List Nat, l.Nodup ∧ l.length = d + 1 ∧ ∀ x ∈ l, ∃ e, e ≤ d ∧ MinD ws lot x e
  | 0, r, a => ⟨[r], by simp, rfl, fun x hx => ⟨0, Nat.le_refl _, by rw [List.mem_singleton.mp hx]; exact a⟩⟩
  | d + 1, r, a => by
    obtain ⟨u, k, w, b, _⟩ := a.back
    obtain ⟨l, h1, h2, h3⟩ := MinD.chain d u b
    refine ⟨r :: l, List.nodup_cons.mpr ⟨fun hr => ?_, h1⟩, by rw [List.length_cons, h2], fun x hx => ?_⟩
    · obtain ⟨e, he, q⟩ := h3 r hr
      have := a.uniq q
      omega
    · rcases List.mem_cons.mp hx with e | hx
      · rw [e]; exact ⟨d + 1, Nat.le_refl _, a⟩
      · obtain ⟨e, he, q⟩ := h3 x hx
        exact ⟨e, by omega, q⟩
theorem MinD.lt {n : Nat} {ws : List Wl} (g : Good n ws) {lot : List Nat} {r d : Nat} (a : MinD ws lot r d) : d < n := by
  obtain ⟨l, h1, h2, h3⟩ := MinD.chain d r a
  have := pigeon_lt h1 fun x hx => by
    obtain ⟨e, _, q⟩ := h3 x hx
    exact Reach.lt g (lot := lot) ⟨e, q.1⟩
  omega

/-! ### rising lists -/
abbrev Ris (l : List Nat) : Prop := l.Pairwise (· < ·)
theorem Ris.nodup {l : List Nat} (h : Ris l) : l.Nodup := List.Pairwise.imp (fun h => Nat.ne_of_lt h) h
theorem ris_ext : ∀ {l1 l2 : List Nat}, Ris l1 → Ris l2 → (∀ x, x ∈ l1 ↔ x ∈ l2) → l1 = l2
  | [], [], _, _, _ => rfl
  | [], y :: l2, _, _, h => absurd ((h y).mpr (List.mem_cons_self ..)) (by simp)
  | x :: l1, [], _, _, h => absurd ((h x).mp (List.mem_cons_self ..)) (by simp)
  | x :: l1, y :: l2, h1, h2, h => by
    obtain ⟨a1, b1⟩ := List.pairwise_cons.mp h1
    obtain ⟨a2, b2⟩ := List.pairwise_cons.mp h2
    have e : x = y := by
      rcases List.mem_cons.mp ((h x).mp (List.mem_cons_self ..)) with e | m
      · exact e
      · rcases List.mem_cons.mp ((h y).mpr (List.mem_cons_self ..)) with e | m'
        · exact e.symm
        · have := a2 x m
          have := a1 y m'
          omega
    subst e
    rw [ris_ext b1 b2 fun z => ?_]
    constructor
    · intro hz
      rcases List.mem_cons.mp ((h z).mp (List.mem_cons_of_mem _ hz)) with e | m
      · have := a1 z hz
        omega
      · exact m
    · intro hz
      rcases List.mem_cons.mp ((h z).mpr (List.mem_cons_of_mem _ hz)) with e | m
      · have := a2 z hz
        omega
      · exact m
theorem ris_range (m : Nat) : Ris (List.range m) := List.pairwise_lt_range
theorem ris_full {l : List Nat} {m : Nat} (h : Ris l) (hl : ∀ x ∈ l, x < m) (e : l.length = m) : l = List.range m := by
  refine ris_ext h (ris_range m) fun x => ⟨fun hx => List.mem_range.mpr (hl x hx), fun hx => ?_⟩
  rcases Classical.em (x ∈ l) with q | q
  · exact q
  · exfalso
    have hx' := List.mem_range.mp hx
    have := pigeon_lt (l := x :: l) (n := m) (List.nodup_cons.mpr ⟨q, Ris.nodup h⟩) fun y hy => by
      rcases List.mem_cons.mp hy with e | hy
      · omega
      · exact hl y hy
    rw [List.length_cons] at this
    omega
/-- all rising lists of numbers below m -/
def subs : Nat → List (List Nat)
  | 0 => [[]]
  | m + 1 => subs m ++ (subs m).map (· ++ [m])
theorem subs_len : ∀ m, (subs m).length = 2 ^ m
  | 0 => rfl
  | m + 1 => by
    show (subs m ++ (subs m).map (· ++ [m])).length = 2 ^ (m + 1)
    rw [List.length_append, List.length_map, subs_len m, Nat.pow_succ]
    omega
theorem mem_subs : ∀ (m : Nat) (l : List Nat), Ris l → (∀ x ∈ l, x < m) → l ∈ subs m
  | 0, l, _, hl => by
    cases l with
    | nil => exact List.mem_singleton.mpr rfl
    | cons x l => exact absurd (hl x (List.mem_cons_self ..)) (by omega)
  | m + 1, l, h, hl => by
    rcases List.eq_nil_or_concat l with e | ⟨l', b, e⟩
    · subst e
      exact List.mem_append_left _ (mem_subs m [] h fun x hx => absurd hx (by simp))
    · subst e
      rw [List.concat_eq_append] at h hl ⊢
      obtain ⟨h1, _, h3⟩ := List.pairwise_append.mp h
      have hb : b < m + 1 := hl b (List.mem_append_right _ (List.mem_singleton.mpr rfl))
      have hlt : ∀ x ∈ l', x < b := fun x hx => h3 x hx b (List.mem_singleton.mpr rfl)
      rcases Nat.lt_or_ge b m with hm | hm
      · refine List.mem_append_left _ (mem_subs m _ h fun x hx => ?_)
        rcases List.mem_append.mp hx with q | q
        · have := hlt x q
          omega
        · rw [List.mem_singleton.mp q]; exact hm
      · have e : b = m := by omega
        subst e
        exact List.mem_append_right _ (List.mem_map.mpr ⟨l', mem_subs b l' h1 hlt, rfl⟩)
theorem pigeonL : ∀ (l D : List (List Nat)), l.Nodup → (∀ x ∈ l, x ∈ D) → l.length ≤ D.length
  | [], _, _, _ => Nat.zero_le _
  | x :: l, D, hn, hs => by
    obtain ⟨h1, h2⟩ := List.nodup_cons.mp hn
    have hx : x ∈ D := hs x (List.mem_cons_self ..)
    have := pigeonL l (D.erase x) h2 fun y hy => by
      refine (List.mem_erase_of_ne fun e => ?_).mpr (hs y (List.mem_cons_of_mem _ hy))
      rw [e] at hy
      exact h1 hy
    rw [List.length_erase_of_mem hx] at this
    have hp := List.length_pos_of_mem hx
    rw [List.length_cons]
    omega
theorem few_lots {L : List (List Nat)} {m : Nat} (hn : L.Nodup) (h : ∀ l ∈ L, Ris l ∧ ∀ x ∈ l, x < m) : L.length ≤ 2 ^ m := by
  have := pigeonL L (subs m) hn fun l hl => mem_subs m l (h l hl).1 (h l hl).2
  rwa [subs_len] at this
end WM


set_option linter.all false
/-! Lots day by day: full days (the program) against all days (the law). -/
namespace WM
open Classical

def evy (ws : List Wl) : List Nat := List.range ws.length
def but (ws : List Wl) (k : Nat) : List Nat := (evy ws).filter fun x => decide (x ≠ k)
def rest (ws : List Wl) (lot : List Nat) : List Nat := (evy ws).filter fun x => decide (x ∉ lot)
noncomputable def rdy (ws : List Wl) (lot : List Nat) (k : Nat) : Bool := decide (Rdy ws lot k)
noncomputable def come (ws : List Wl) (lot : List Nat) : List Nat := (rest ws lot).filter (rdy ws lot)
noncomputable def growth (ws : List Wl) (lot : List Nat) : Bool := lot.all (rdy ws lot)
/-- all walls are come to -/
def Leaves (ws : List Wl) : Prop := ∀ k, k < ws.length → Rdy ws (evy ws) k

theorem mem_evy {ws : List Wl} {k : Nat} : k ∈ evy ws ↔ k < ws.length := List.mem_range
theorem mem_but {ws : List Wl} {k x : Nat} : x ∈ but ws k ↔ x < ws.length ∧ x ≠ k := by
  unfold but
  rw [List.mem_filter, mem_evy, decide_eq_true_eq]
theorem mem_rest {ws : List Wl} {lot : List Nat} {x : Nat} : x ∈ rest ws lot ↔ x < ws.length ∧ x ∉ lot := by
  unfold rest
  rw [List.mem_filter, mem_evy, decide_eq_true_eq]
theorem mem_come {ws : List Wl} {lot : List Nat} {x : Nat} : x ∈ come ws lot ↔ (x < ws.length ∧ x ∉ lot) ∧ Rdy ws lot x := by
  unfold come rdy
  rw [List.mem_filter, mem_rest, decide_eq_true_eq]
theorem ris_evy (ws : List Wl) : Ris (evy ws) := ris_range _
theorem ris_come (ws : List Wl) (lot : List Nat) : Ris (come ws lot) := ((ris_range _).filter _).filter _
theorem growth_evy {ws : List Wl} : growth ws (evy ws) = true ↔ Leaves ws := by
  unfold growth rdy Leaves
  rw [List.all_eq_true]
  constructor
  · intro h k hk
    exact of_decide_eq_true (h k (mem_evy.mpr hk))
  · intro h k hk
    exact decide_eq_true (h k (mem_evy.mp hk))

theorem come_ne {ws : List Wl} (lv : Leaves ws) {lot : List Nat} {k : Nat} (hk : k < ws.length) (hn : k ∉ lot) : come ws lot ≠ [] := by
  intro e
  have no : ∀ j, j < ws.length → j ∉ lot → ¬ Rdy ws lot j := fun j hj hnj hr => by
    have : j ∈ come ws lot := mem_come.mpr ⟨⟨hj, hnj⟩, hr⟩
    rw [e] at this
    cases this
  have back : ∀ r, Reach ws (evy ws) r → Reach ws lot r := by
    rintro r ⟨d, p⟩
    induction p with
    | zero => exact Reach.zero
    | @step r d j w _ hj hw hr ih =>
      by_cases q : j ∈ lot
      · exact ih.step q hw hr
      · exact absurd ⟨w, hw, r, hr, ih⟩ (no j (mem_evy.mp hj) q)
  obtain ⟨w, hw, r, hr, p⟩ := lv k hk
  exact no k hk hn ⟨w, hw, r, hr, back r p⟩

/-! ### a day more -/
structure Adds (L A L' : List Nat) : Prop where
  perm : L'.Perm (L ++ A)
  up : L'.Pairwise (· ≤ ·)
theorem Adds.mem {L A L' : List Nat} (h : Adds L A L') {x : Nat} : x ∈ L' ↔ x ∈ L ∨ x ∈ A := by
  rw [h.perm.mem_iff, List.mem_append]
theorem Adds.ex (L A : List Nat) : ∃ L', Adds L A L' := by
  refine ⟨(L ++ A).mergeSort (fun a b => decide (a ≤ b)), List.mergeSort_perm _ _, ?_⟩
  have := List.pairwise_mergeSort (le := fun a b : Nat => decide (a ≤ b)) (fun a b c h1 h2 => by simp at h1 h2 ⊢; omega) (fun a b => by simp; omega) (L ++ A)
  exact this.imp fun h => by simpa using h
theorem Adds.ris {L A L' : List Nat} (h : Adds L A L') (hL : Ris L) (hA : Ris A) (hd : ∀ x ∈ A, x ∉ L) : Ris L' := by
  have nd : L'.Nodup := by
    rw [h.perm.nodup_iff, List.nodup_append]
    exact ⟨hL.nodup, hA.nodup, fun a ha b hb e => hd b hb (e ▸ ha)⟩
  exact (h.up.and nd).imp fun q => by omega
theorem Adds.uniq {L A L1 L2 : List Nat} (h1 : Adds L A L1) (h2 : Adds L A L2) (hL : Ris L) (hA : Ris A) (hd : ∀ x ∈ A, x ∉ L) : L1 = L2 :=
  ris_ext (h1.ris hL hA hd) (h2.ris hL hA hd) fun x => by rw [h1.mem, h2.mem]

/-- a lot that so many days leave, counted from the end, at most m walls a day: any | as many as can be -/
inductive LS (ws : List Wl) (m : Nat) : Nat → List Nat → Prop
  | zero : LS ws m 0 []
  | step {t : Nat} {L A L' : List Nat} : LS ws m t L → A ≠ [] → Ris A → (∀ x ∈ A, x ∈ come ws L) → A.length ≤ m → Adds L A L' → LS ws m (t + 1) L'
inductive PG (ws : List Wl) (m : Nat) : Nat → List Nat → Prop
  | zero : PG ws m 0 []
  | step {t : Nat} {L A L' : List Nat} : PG ws m t L → Ris A → (∀ x ∈ A, x ∈ come ws L) → A.length = min m (come ws L).length → Adds L A L' → PG ws m (t + 1) L'
theorem LS.ok {ws : List Wl} {m t : Nat} {L : List Nat} (h : LS ws m t L) : Ris L ∧ (∀ x ∈ L, x < ws.length) ∧ t ≤ L.length := by
  induction h with
  | zero => exact ⟨List.Pairwise.nil, fun x hx => absurd hx (by simp), Nat.le_refl _⟩
  | step _ hne hA hc _ ha ih =>
    obtain ⟨i1, i2, i3⟩ := ih
    refine ⟨ha.ris i1 hA fun x hx => (mem_come.mp (hc x hx)).1.2, fun x hx => ?_, ?_⟩
    · rcases ha.mem.mp hx with q | q
      · exact i2 x q
      · exact (mem_come.mp (hc x q)).1.1
    · have := ha.perm.length_eq
      rw [List.length_append] at this
      have := List.length_pos_iff.mpr hne
      omega
theorem PG.ok {ws : List Wl} {m t : Nat} {L : List Nat} (h : PG ws m t L) : Ris L ∧ (∀ x ∈ L, x < ws.length) := by
  induction h with
  | zero => exact ⟨List.Pairwise.nil, fun x hx => absurd hx (by simp)⟩
  | step _ hA hc _ ha ih =>
    obtain ⟨i1, i2⟩ := ih
    refine ⟨ha.ris i1 hA fun x hx => (mem_come.mp (hc x hx)).1.2, fun x hx => ?_⟩
    rcases ha.mem.mp hx with q | q
    · exact i2 x q
    · exact (mem_come.mp (hc x q)).1.1

/-- a part of a list, of a told size, that holds what a test picks -/
theorem pick {p : Nat → Bool} : ∀ (C : List Nat) (q : Nat), (C.filter p).length ≤ q → q ≤ C.length → ∃ B : List Nat, B.Sublist C ∧ B.length = q ∧ ∀ x ∈ C, p x = true → x ∈ B
  | [], q, _, h2 => ⟨[], List.Sublist.slnil, by simp at h2; simp [h2], fun x hx => absurd hx (by simp)⟩
  | c :: C, q, h1, h2 => by
    by_cases hc : p c = true
    · rw [List.filter_cons, if_pos hc, List.length_cons] at h1
      rw [List.length_cons] at h2
      obtain ⟨B, b1, b2, b3⟩ := pick (p := p) C (q - 1) (by omega) (by omega)
      refine ⟨c :: B, b1.cons₂ c, by rw [List.length_cons, b2]; omega, fun x hx hp => ?_⟩
      rcases List.mem_cons.mp hx with e | hx
      · rw [e]; exact List.mem_cons_self ..
      · exact List.mem_cons_of_mem _ (b3 x hx hp)
    · rw [List.filter_cons, if_neg hc] at h1
      rw [List.length_cons] at h2
      rcases Nat.lt_or_ge C.length q with h | h
      · exact ⟨c :: C, List.Sublist.refl _, by rw [List.length_cons]; omega, fun x hx _ => hx⟩
      · obtain ⟨B, b1, b2, b3⟩ := pick (p := p) C q h1 h
        refine ⟨B, b1.cons c, b2, fun x hx hp => ?_⟩
        rcases List.mem_cons.mp hx with e | hx
        · rw [e] at hp; exact absurd hp hc
        · exact b3 x hx hp
/-- the program's lots hold the law's -/
theorem LS.dom {ws : List Wl} {m t : Nat} {L : List Nat} (h : LS ws m t L) : ∃ L', PG ws m t L' ∧ ∀ x ∈ L, x ∈ L' := by
  induction h with
  | zero => exact ⟨[], .zero, fun x hx => hx⟩
  | @step t L A L2 _ hne hA hc hm ha ih =>
    obtain ⟨L', g, hs⟩ := ih
    have sub : ∀ x ∈ A, x ∉ L' → x ∈ come ws L' := fun x hx hn => by
      obtain ⟨⟨h1, h2⟩, h3⟩ := mem_come.mp (hc x hx)
      exact mem_come.mpr ⟨⟨h1, hn⟩, h3.mono hs⟩
    have len : ((come ws L').filter fun x => decide (x ∈ A)).length ≤ A.length :=
      pigeon _ _ (Ris.nodup ((ris_come ws L').filter _)) fun x hx => by
        obtain ⟨_, q⟩ := List.mem_filter.mp hx
        simpa using q
    have len2 : ((come ws L').filter fun x => decide (x ∈ A)).length ≤ (come ws L').length := List.length_filter_le _ _
    obtain ⟨B, b1, b2, b3⟩ := pick (p := fun x => decide (x ∈ A)) (come ws L') (min m (come ws L').length) (by omega) (by omega)
    obtain ⟨L3, a3⟩ := Adds.ex L' B
    refine ⟨L3, .step g ((ris_come ws L').sublist b1) (fun x hx => b1.subset hx) b2 a3, fun x hx => ?_⟩
    rcases ha.mem.mp hx with q | q
    · exact a3.mem.mpr (.inl (hs x q))
    · by_cases q2 : x ∈ L'
      · exact a3.mem.mpr (.inl q2)
      · exact a3.mem.mpr (.inr (b3 x (sub x q q2) (decide_eq_true q)))
/-- and are lots of the law's, as long as none is full -/
theorem PG.sub {ws : List Wl} (lv : Leaves ws) {m : Nat} (hm : 1 ≤ m) {t : Nat} {L : List Nat} (h : PG ws m t L) : LS ws m t L ∨ ∃ s, s < t ∧ LS ws m s (evy ws) := by
  induction h with
  | zero => exact .inl .zero
  | @step t L A L' _ hA hc hl ha ih =>
    rcases ih with ih | ⟨s, hs, f⟩
    · by_cases q : A = []
      · have e0 : (come ws L).length = 0 := by
          rw [q, List.length_nil] at hl
          omega
        have e1 : come ws L = [] := List.length_eq_zero_iff.mp e0
        have full : ∀ k, k < ws.length → k ∈ L := fun k hk => by
          by_cases c : k ∈ L
          · exact c
          · exact absurd e1 (come_ne lv hk c)
        obtain ⟨r1, r2, _⟩ := ih.ok
        have e : L = evy ws := ris_ext r1 (ris_evy ws) fun x => ⟨fun hx => mem_evy.mpr (r2 x hx), fun hx => full x (mem_evy.mp hx)⟩
        exact .inr ⟨t, by omega, e ▸ ih⟩
      · exact .inl (.step ih q hA hc (by omega) ha)
    · exact .inr ⟨s, by omega, f⟩
theorem LS.full {ws : List Wl} {m t : Nat} {L : List Nat} (h : LS ws m t L) (e : L.length = ws.length) : L = evy ws := ris_full h.ok.1 h.ok.2.1 e
theorem LS.full_pg {ws : List Wl} {m t : Nat} (h : LS ws m t (evy ws)) : PG ws m t (evy ws) := by
  obtain ⟨L', g, hs⟩ := h.dom
  obtain ⟨r1, r2⟩ := g.ok
  have e : L' = evy ws := ris_ext r1 (ris_evy ws) fun x => ⟨fun hx => mem_evy.mpr (r2 x hx), fun hx => hs x hx⟩
  exact e ▸ g
/-- the least number of days -/
def Days (ws : List Wl) (m d : Nat) : Prop := LS ws m d (evy ws) ∧ ∀ j, j < d → ¬ LS ws m j (evy ws)
def DaysP (ws : List Wl) (m d : Nat) : Prop := PG ws m d (evy ws) ∧ ∀ j, j < d → ¬ PG ws m j (evy ws)
theorem DaysP.days {ws : List Wl} (lv : Leaves ws) {m d : Nat} (hm : 1 ≤ m) (h : DaysP ws m d) : Days ws m d := by
  refine ⟨?_, fun j hj q => h.2 j hj q.full_pg⟩
  rcases h.1.sub lv hm with q | ⟨s, hs, q⟩
  · exact q
  · exact absurd q.full_pg (h.2 s hs)
theorem Days.uniq {ws : List Wl} {m d e : Nat} (a : Days ws m d) (b : Days ws m e) : d = e := by
  rcases Nat.lt_trichotomy d e with h | h | h
  · exact absurd a.1 (b.2 d h)
  · exact h
  · exact absurd b.1 (a.2 e h)
/-- the program's loop stops: a lot of a day without a full one ahead -/
theorem PG.low {ws : List Wl} (lv : Leaves ws) {m : Nat} (hm : 1 ≤ m) {t : Nat} {L : List Nat} (h : PG ws m t L) (no : ∀ j, j < t → ¬ PG ws m j (evy ws)) : t ≤ L.length ∧ LS ws m t L := by
  rcases h.sub lv hm with q | ⟨s, hs, q⟩
  · exact ⟨q.ok.2.2, q⟩
  · exact absurd q.full_pg (no s hs)
theorem LS.next {ws : List Wl} (lv : Leaves ws) {m : Nat} (hm : 1 ≤ m) {t : Nat} {L : List Nat} (h : LS ws m t L) (hn : L ≠ evy ws) : ∃ L', LS ws m (t + 1) L' := by
  obtain ⟨r1, r2, _⟩ := h.ok
  have : ∃ k, k < ws.length ∧ k ∉ L := by
    by_cases q : ∃ k, k < ws.length ∧ k ∉ L
    · exact q
    · exfalso
      refine hn (ris_ext r1 (ris_evy ws) fun x => ⟨fun hx => mem_evy.mpr (r2 x hx), fun hx => ?_⟩)
      by_cases c : x ∈ L
      · exact c
      · exact absurd ⟨x, mem_evy.mp hx, c⟩ q
  obtain ⟨k, hk, c⟩ := this
  have hne := come_ne lv hk c
  obtain ⟨y, ys, e⟩ : ∃ y ys, come ws L = y :: ys := by
    cases e : come ws L with
    | nil => exact absurd e hne
    | cons y ys => exact ⟨y, ys, rfl⟩
  obtain ⟨L', a⟩ := Adds.ex L [y]
  exact ⟨L', .step h (by simp) (List.pairwise_singleton _ _) (fun x hx => by rw [List.mem_singleton.mp hx, e]; exact List.mem_cons_self ..) (by simpa using hm) a⟩
end WM


set_option linter.all false
/-! Least numbers from the end, the late plan. -/
namespace WM
open Classical

/-- a way of so many gaps, not through the wall's own, to a side of it -/
def Bk (ws : List Wl) (k b : Nat) : Prop := ∃ w r, ws[k]? = some w ∧ r ∈ sides w ∧ Path ws (but ws k) r b
def MinB (ws : List Wl) (k b : Nat) : Prop := Bk ws k b ∧ ∀ e, e < b → ¬ Bk ws k e
theorem MinB.uniq {ws : List Wl} {k d e : Nat} (a : MinB ws k d) (b : MinB ws k e) : d = e := by
  rcases Nat.lt_trichotomy d e with h | h | h
  · exact absurd a.1 (b.2 d h)
  · exact h
  · exact absurd b.1 (a.2 e h)
theorem MinB.of {ws : List Wl} {k b : Nat} (h : Bk ws k b) : ∃ e, e ≤ b ∧ MinB ws k e := by
  obtain ⟨e, h1, h2, h3⟩ := least (P := fun e => Bk ws k e) b h
  exact ⟨e, h1, h2, h3⟩
/-- a way goes through the wall's own gap, or not -/
theorem Path.cut {ws : List Wl} {lot : List Nat} (hl : ∀ x ∈ lot, x < ws.length) (k : Nat) {r d : Nat} (p : Path ws lot r d) : Path ws (but ws k) r d ∨ ∃ b, b < d ∧ Bk ws k b := by
  induction p with
  | zero => exact .inl .zero
  | @step r d j w _ hj hw hr ih =>
    rcases ih with ih | ⟨b, hb, q⟩
    · by_cases e : j = k
      · subst e
        exact .inr ⟨d, by omega, w, r, hw, hr, ih⟩
      · exact .inl (.step ih (mem_but.mpr ⟨hl j hj, e⟩) hw hr)
    · exact .inr ⟨b, by omega, q⟩
theorem but_lt {ws : List Wl} {k : Nat} : ∀ x ∈ but ws k, x < ws.length := fun _ hx => (mem_but.mp hx).1
theorem evy_lt {ws : List Wl} : ∀ x ∈ evy ws, x < ws.length := fun _ hx => mem_evy.mp hx
theorem Leaves.bk {ws : List Wl} (lv : Leaves ws) {k : Nat} (hk : k < ws.length) : ∃ b, MinB ws k b := by
  obtain ⟨w, hw, r, hr, d, p⟩ := lv k hk
  rcases p.cut evy_lt k with q | ⟨b, _, q⟩
  · obtain ⟨e, _, m⟩ := MinB.of ⟨w, r, hw, hr, q⟩
    exact ⟨e, m⟩
  · obtain ⟨e, _, m⟩ := MinB.of q
    exact ⟨e, m⟩
/-- the gaps on a way come early -/
theorem Path.early {ws : List Wl} {lot : List Nat} (hl : ∀ x ∈ lot, x < ws.length) {r d k : Nat} {w : Wl} (p : Path ws lot r d) (hw : ws[k]? = some w) (hr : r ∈ sides w) : ∃ b, b ≤ d ∧ MinB ws k b := by
  rcases p.cut hl k with q | ⟨b, hb, q⟩
  · exact MinB.of ⟨w, r, hw, hr, q⟩
  · obtain ⟨e, he, m⟩ := MinB.of q
    exact ⟨e, by omega, m⟩
theorem Path.early_lot {ws : List Wl} {lot : List Nat} (hl : ∀ x ∈ lot, x < ws.length) {r d : Nat} (p : Path ws lot r d) : ∀ lot' : List Nat, (∀ k ∈ lot, (∃ b, b < d ∧ MinB ws k b) → k ∈ lot') → Path ws lot' r d := by
  induction p with
  | zero => exact fun _ _ => .zero
  | @step r d j w p hj hw hr ih =>
    intro lot' h
    refine .step (ih lot' fun k hk ⟨b, hb, m⟩ => h k hk ⟨b, by omega, m⟩) (h j hj ?_) hw hr
    obtain ⟨b, hb, m⟩ := p.early hl hw hr
    exact ⟨b, by omega, m⟩
/-- a wall may be set from a room come to through the walls of less numbers -/
theorem MinB.ready {ws : List Wl} {k b : Nat} (h : MinB ws k b) (lot : List Nat) (hl : ∀ j, j < ws.length → (∃ c, c < b ∧ MinB ws j c) → j ∈ lot) : Rdy ws lot k := by
  obtain ⟨⟨w, r, hw, hr, p⟩, _⟩ := h
  exact ⟨w, hw, r, hr, b, p.early_lot but_lt lot fun j hj q => hl j (but_lt j hj) q⟩
/-- no number is left out -/
theorem MinB.down {ws : List Wl} {k b : Nat} (h : MinB ws k (b + 1)) : ∃ j, j < ws.length ∧ MinB ws j b := by
  obtain ⟨⟨w, r, hw, hr, p⟩, hm⟩ := h
  cases p with
  | @step u _ j v p hj hv hu =>
    have hjk := (mem_but.mp hj).2
    obtain ⟨c, hc, m⟩ := p.early but_lt hv hu
    refine ⟨j, (mem_but.mp hj).1, ?_⟩
    rcases Nat.lt_or_ge c b with hlt | hge
    · exfalso
      obtain ⟨v', u', hv', hu', p'⟩ := m.1
      rw [hv] at hv'
      cases hv'
      rcases p'.cut but_lt k with q | ⟨e, he, q⟩
      · -- u' is u, or the other end of the wall
        rcases oth_end hu with ⟨e1, e2⟩ | ⟨e1, e2⟩ <;> rcases side_end hu' with e3 | e3
        · have : oth v u' = oth v u := by rw [e3, e1]
          exact hm (c + 1) (by omega) ⟨w, _, hw, hr, by rw [← this]; exact .step q hj hv hu'⟩
        · exact hm c (by omega) ⟨w, _, hw, hr, by rw [e2, ← e3]; exact q⟩
        · exact hm c (by omega) ⟨w, _, hw, hr, by rw [e2, ← e3]; exact q⟩
        · have : oth v u' = oth v u := by rw [e3, e1]
          exact hm (c + 1) (by omega) ⟨w, _, hw, hr, by rw [← this]; exact .step q hj hv hu'⟩
      · exact hm e (by omega) q
    · have : c = b := by omega
      exact this ▸ m
theorem MinB.downs {ws : List Wl} : ∀ (b k : Nat), MinB ws k b → ∀ c, c ≤ b → ∃ j, j < ws.length ∧ MinB ws j c := by
  intro b
  induction b with
  | zero =>
    intro k h c hc
    have e : c = 0 := by omega
    subst e
    obtain ⟨⟨w, r, hw, _⟩, _⟩ := id h
    exact ⟨k, (List.getElem?_eq_some_iff.mp hw).1, h⟩
  | succ b ih =>
    intro k h c hc
    by_cases e : c = b + 1
    · subst e
      obtain ⟨⟨w, r, hw, _⟩, _⟩ := id h
      exact ⟨k, (List.getElem?_eq_some_iff.mp hw).1, h⟩
    · obtain ⟨j, _, q⟩ := h.down
      exact ih j q c (by omega)

/-- both ends of each wall of a lot are near -/
def Near (ws : List Wl) (L : List Nat) (t : Nat) : Prop := ∀ k ∈ L, ∀ w, ws[k]? = some w → (∃ d, d ≤ t ∧ Path ws L w.1 d) ∧ ∃ d, d ≤ t ∧ Path ws L w.2.1 d
theorem Near.reach {ws : List Wl} {L : List Nat} {t : Nat} (h : Near ws L t) {r : Nat} (p : Reach ws L r) : ∃ d, d ≤ t ∧ Path ws L r d := by
  obtain ⟨d, p⟩ := p
  cases p with
  | zero => exact ⟨0, Nat.zero_le _, .zero⟩
  | @step u d k w p hk hw hr =>
    obtain ⟨h1, h2⟩ := h k hk w hw
    rcases oth_end hr with ⟨_, e⟩ | ⟨_, e⟩
    · rw [e]; exact h2
    · rw [e]; exact h1
/-- on the t-th day from the end a wall has a number of at most t -/
theorem LS.late {ws : List Wl} {m t : Nat} {L : List Nat} (h : LS ws m t L) : (∀ k ∈ L, ∃ b, b < t ∧ Bk ws k b) ∧ Near ws L t := by
  induction h with
  | zero => exact ⟨fun k hk => absurd hk (by simp), fun k hk => absurd hk (by simp)⟩
  | @step t L A L' h0 _ _ hc _ ha ih =>
    obtain ⟨i1, i2⟩ := ih
    have hlt : ∀ x ∈ L, x < ws.length := h0.ok.2.1
    have sub : ∀ x ∈ L, x ∈ L' := fun x hx => ha.mem.mpr (.inl hx)
    have new : ∀ k ∈ A, ∃ w r d, ws[k]? = some w ∧ r ∈ sides w ∧ d ≤ t ∧ Path ws L r d := fun k hk => by
      obtain ⟨_, w, hw, r, hr, q⟩ := mem_come.mp (hc k hk)
      obtain ⟨d, hd, p⟩ := i2.reach q
      exact ⟨w, r, d, hw, hr, hd, p⟩
    refine ⟨fun k hk => ?_, fun k hk w' hw' => ?_⟩
    · rcases ha.mem.mp hk with q | q
      · obtain ⟨b, hb, z⟩ := i1 k q
        exact ⟨b, by omega, z⟩
      · obtain ⟨w, r, d, hw, hr, hd, p⟩ := new k q
        have hn := (mem_come.mp (hc k q)).1.2
        refine ⟨d, by omega, w, r, hw, hr, p.mono fun x hx => mem_but.mpr ⟨hlt x hx, fun e => ?_⟩⟩
        rw [e] at hx
        exact hn hx
    · rcases ha.mem.mp hk with q | q
      · obtain ⟨⟨d1, h1, p1⟩, ⟨d2, h2, p2⟩⟩ := i2 k q w' hw'
        exact ⟨⟨d1, by omega, p1.mono sub⟩, ⟨d2, by omega, p2.mono sub⟩⟩
      · obtain ⟨w, r, d, hw, hr, hd, p⟩ := new k q
        have ew : w' = w := by
          rw [hw] at hw'
          exact (Option.some.inj hw').symm
        subst ew
        have p' := p.mono sub
        have s' : Path ws L' (oth w' r) (d + 1) := .step p' hk hw hr
        rcases oth_end hr with ⟨e1, e2⟩ | ⟨e1, e2⟩
        · rw [e2] at s'
          rw [e1] at p'
          exact ⟨⟨d, by omega, p'⟩, ⟨d + 1, by omega, s'⟩⟩
        · rw [e2] at s'
          rw [e1] at p'
          exact ⟨⟨d + 1, by omega, s'⟩, ⟨d, by omega, p'⟩⟩

/-- the walls of number c (from 0), up to c -/
noncomputable def level (ws : List Wl) (c : Nat) : List Nat := (evy ws).filter fun k => decide (MinB ws k c)
noncomputable def upto (ws : List Wl) (c : Nat) : List Nat := (evy ws).filter fun k => decide (∃ b, b < c ∧ MinB ws k b)
theorem mem_level {ws : List Wl} {c k : Nat} : k ∈ level ws c ↔ k < ws.length ∧ MinB ws k c := by
  unfold level
  rw [List.mem_filter, mem_evy, decide_eq_true_eq]
theorem mem_upto {ws : List Wl} {c k : Nat} : k ∈ upto ws c ↔ k < ws.length ∧ ∃ b, b < c ∧ MinB ws k b := by
  unfold upto
  rw [List.mem_filter, mem_evy, decide_eq_true_eq]
theorem ris_level (ws : List Wl) (c : Nat) : Ris (level ws c) := (ris_range _).filter _
theorem ris_upto (ws : List Wl) (c : Nat) : Ris (upto ws c) := (ris_range _).filter _
theorem level_come {ws : List Wl} {c k : Nat} (h : k ∈ level ws c) : k ∈ come ws (upto ws c) := by
  obtain ⟨hk, m⟩ := mem_level.mp h
  refine mem_come.mpr ⟨⟨hk, fun q => ?_⟩, m.ready _ fun j hj q => mem_upto.mpr ⟨hj, q⟩⟩
  obtain ⟨_, b, hb, z⟩ := mem_upto.mp q
  have := m.uniq z
  omega
theorem upto_adds (ws : List Wl) (c : Nat) : Adds (upto ws c) (level ws c) (upto ws (c + 1)) := by
  refine ⟨?_, (ris_upto ws (c + 1)).imp fun h => Nat.le_of_lt h⟩
  refine (List.perm_ext_iff_of_nodup (Ris.nodup (ris_upto ws (c + 1))) ?_).mpr fun x => ?_
  · rw [List.nodup_append]
    refine ⟨Ris.nodup (ris_upto ws c), Ris.nodup (ris_level ws c), fun a ha b hb e => ?_⟩
    subst e
    exact (mem_come.mp (level_come hb)).1.2 ha
  · rw [List.mem_append, mem_upto, mem_upto, mem_level]
    constructor
    · rintro ⟨hx, b, hb, z⟩
      by_cases e : b = c
      · exact .inr ⟨hx, e ▸ z⟩
      · exact .inl ⟨hx, b, by omega, z⟩
    · rintro (⟨hx, b, hb, z⟩ | ⟨hx, z⟩)
      · exact ⟨hx, b, by omega, z⟩
      · exact ⟨hx, c, by omega, z⟩
/-- the greatest number -/
def Top (ws : List Wl) (c : Nat) : Prop := (∃ k, MinB ws k c) ∧ ∀ k b, MinB ws k b → b ≤ c
theorem bk_lt {ws : List Wl} {k b : Nat} (h : Bk ws k b) : k < ws.length := by
  obtain ⟨w, r, hw, _⟩ := h
  exact (List.getElem?_eq_some_iff.mp hw).1
theorem Top.level_ne {ws : List Wl} {c : Nat} (h : Top ws c) {b : Nat} (hb : b ≤ c) : level ws b ≠ [] := by
  obtain ⟨⟨k, m⟩, _⟩ := h
  obtain ⟨j, hj, z⟩ := MinB.downs c k m b hb
  intro e
  have := mem_level.mpr ⟨hj, z⟩
  rw [e] at this
  cases this
theorem Top.full {ws : List Wl} (lv : Leaves ws) {c : Nat} (h : Top ws c) : upto ws (c + 1) = evy ws := by
  refine ris_ext (ris_upto _ _) (ris_evy ws) fun x => ⟨fun hx => mem_evy.mpr (mem_upto.mp hx).1, fun hx => ?_⟩
  have hx := mem_evy.mp hx
  obtain ⟨b, m⟩ := lv.bk hx
  have := h.2 x b m
  exact mem_upto.mpr ⟨hx, b, by omega, m⟩
theorem Top.chain {ws : List Wl} {c : Nat} (h : Top ws c) : ∀ t, t ≤ c + 1 → LS ws ws.length t (upto ws t) := by
  intro t
  induction t with
  | zero =>
    intro _
    have e : upto ws 0 = [] := by
      cases e : upto ws 0 with
      | nil => rfl
      | cons y ys =>
        obtain ⟨_, b, hb, _⟩ := mem_upto.mp (by rw [e]; exact List.mem_cons_self .. : y ∈ upto ws 0)
        omega
    rw [e]
    exact .zero
  | succ t ih =>
    intro ht
    refine .step (ih (by omega)) (h.level_ne (by omega)) (ris_level ws t) (fun x hx => level_come hx) ?_ (upto_adds ws t)
    have := List.length_filter_le (fun k => decide (MinB ws k t)) (evy ws)
    unfold level
    unfold evy at *
    rw [List.length_range] at this
    exact this
/-- with masons enough the days are as many as the greatest number -/
theorem Top.days {ws : List Wl} (lv : Leaves ws) {c : Nat} (h : Top ws c) : Days ws ws.length (c + 1) := by
  refine ⟨h.full lv ▸ h.chain (c + 1) (Nat.le_refl _), fun j hj q => ?_⟩
  obtain ⟨k, m⟩ := h.1
  obtain ⟨b, hb, z⟩ := (q.late).1 k (mem_evy.mpr (bk_lt m.1))
  exact m.2 b (by omega) z
theorem Top.ex {ws : List Wl} (lv : Leaves ws) (hw : ws ≠ []) : ∃ c, Top ws c := by
  have : ∀ n, n ≤ ws.length → (∃ c, (∃ k, k < n ∧ MinB ws k c) ∧ ∀ k b, k < n → MinB ws k b → b ≤ c) ∨ n = 0 := by
    intro n
    induction n with
    | zero => intro _; exact .inr rfl
    | succ n ih =>
      intro hn
      obtain ⟨b, m⟩ := lv.bk (k := n) (by omega)
      rcases ih (by omega) with ⟨c, ⟨k, hk, z⟩, hc⟩ | e
      · refine .inl ⟨max b c, ?_, fun k' b' hk' m' => ?_⟩
        · rcases Nat.le_total b c with q | q
          · exact ⟨k, by omega, by rw [Nat.max_eq_right q]; exact z⟩
          · exact ⟨n, by omega, by rw [Nat.max_eq_left q]; exact m⟩
        · by_cases e : k' = n
          · subst e
            have := m'.uniq m
            omega
          · have := hc k' b' (by omega) m'
            omega
      · subst e
        refine .inl ⟨b, ⟨0, by omega, m⟩, fun k' b' hk' m' => ?_⟩
        have e : k' = 0 := by omega
        subst e
        have := m'.uniq m
        omega
  rcases this ws.length (Nat.le_refl _) with ⟨c, ⟨k, _, z⟩, hc⟩ | e
  · exact ⟨c, ⟨k, z⟩, fun k b m => hc k b (bk_lt m.1) m⟩
  · exact absurd (List.length_eq_zero_iff.mp e) hw
end WM


set_option Elab.async false
set_option linter.all false
set_option maxRecDepth 100000
set_option maxHeartbeats 4000000
/-! Rules that the layer lacks: a list extended by a tuple, sorted of a tuple of ints, a tuple backwards, enumerate of a tuple. -/
namespace WR
open PySem PySem.Spec PyProof.Rows L2
section
variable {prog : Program} {w : World} {A : Around} {E : Value → Shared → Prop} {s : Shared}
/-- what collect makes of a tuple -/
theorem collect_tup {t : Addr} {vs : List Value} {Q : List Value → Shared → Prop} (ht : IsTup s.heap t vs.toArray) (hsz : vs.length ≤ sizeLine)
    (h : Q vs { s with heap := (s.heap.push (seqObj "list" #[] 0)).update s.heap.objs.size (Obj.mapSeq (· ++ vs.toArray)) }) :
    wpAny (model prog w) A (collect (.ref t)) Q E s := by
  obtain ⟨o, ho, hc, n, hd⟩ := ht
  unfold collect
  refine wpAny_bind (wpAny_runValue (codeAny_builtin entry_proto_collect' ?_))
  show wpAny _ _ (do again (.builtin "list.__iadd__" ⟨[← newList [], .ref t], []⟩)) _ _ s
  refine wpAny_bind (wpAny_newList (wpAny_pure ⟨Code.quiet_builtin _ (by decide +kernel), codeAny_builtin entry_list_iadd' ?_⟩))
  show wpAny _ _ (Builtin.List.listExtendWith (.ref s.heap.objs.size) (.ref t) (.ref s.heap.objs.size)) _ _ { s with heap := s.heap.push (seqObj "list" #[] 0) }
  unfold Builtin.List.listExtendWith
  have ho' : (s.heap.push (seqObj "list" #[] 0)).get? t = some o := Heap.get?_push_of_some _ ho
  refine wpAny_bind (wpAny_typeOf (T := "tuple") ⟨o, ho', hc⟩ ?_)
  rw [if_pos (by rw [show (Value.type "tuple" == Value.type "tuple") = true from rfl]; simp)]
  refine wpAny_bind (listItems_at ho' hd ?_)
  refine wpAny_bind (listItems_at (xs := #[]) (n := 0) (Heap.get?_push_size _ rfl) rfl ?_)
  rw [if_neg (by simp)]
  refine wpAny_bind (listUpdate_at (xs := #[]) (n := 0) (Heap.get?_push_size _ rfl) rfl ?_ (Nat.zero_le _)
    (by show (#[] ++ vs.toArray).size ≤ sizeLine + 1; simp only [Array.size_append, List.size_toArray, List.length_nil]; omega))
  refine wpAny_pure ?_
  show wpAny (model prog w) A (do
      let o ← load s.heap.objs.size
      match o.data with
      | .seq xs _ => pure xs.toList
      | _ => unsupported "internal:collect") Q E { s with heap := (s.heap.push (seqObj "list" #[] 0)).update s.heap.objs.size (Obj.mapSeq (· ++ vs.toArray)) }
  refine wpAny_bind (wpAny_load (get?_update_seq (Heap.get?_push_size _ rfl) _) ?_)
  show wpAny _ _ (pure ((#[] : Array Value) ++ vs.toArray).toList) Q E _
  rw [show ((#[] : Array Value) ++ vs.toArray).toList = vs by simp]
  exact wpAny_pure h
/-- sorted of a tuple of fewer than 64 ints -/
theorem sorted_tupInts {t : Addr} {vs : List Value} {ns : List Int} {Q : Value → Shared → Prop} (ht : IsTup s.heap t vs.toArray) (hI : IntsAre vs ns) (h64 : vs.length < 64)
    (h : ∀ (out : Array Value) (ns' : List Int), IntsAre out.toList ns' → ns'.Perm ns → ns'.Pairwise (· ≤ ·) → Q (.ref (s.heap.objs.size + 1)) { s with heap := sortedAll s.heap vs out }) :
    wpAny (model prog w) A (call (.builtin "sorted") [.ref t]) Q E s := by
  refine Calls.call_function_entry kind_sorted plain_sorted entry_sorted (args_sorted1 _) ?_
  unfold Builtin.«sorted»
  refine wpAny_bind (m := checkCount "sorted" 1 1 _) (wpAny_pure ?_)
  refine wpAny_bind (collect_tup ht (by rw [sizeLine_eq]; omega) ?_)
  refine wpAny_bind (wpAny_newList ?_)
  have hsz : ((s.heap.push (seqObj "list" #[] 0)).update s.heap.objs.size (Obj.mapSeq (· ++ vs.toArray))).objs.size = s.heap.objs.size + 1 := by
    rw [Heap.size_update, size_push']
  have hoL : (((s.heap.push (seqObj "list" #[] 0)).update s.heap.objs.size (Obj.mapSeq (· ++ vs.toArray))).push (seqObj "list" vs.toArray 0)).get? (s.heap.objs.size + 1) = some (seqObj "list" vs.toArray 0) := by
    rw [← hsz]; exact Heap.get?_push_size _ rfl
  show wpAny _ _ _ _ _ { s with heap := ((s.heap.push (seqObj "list" #[] 0)).update s.heap.objs.size (Obj.mapSeq (· ++ vs.toArray))).push (seqObj "list" vs.toArray 0) }
  rw [hsz]
  refine wpAny_bind (wpAny_holding (wpAny_call_entry slot_list_sort ⟨_, hoL, rfl⟩ entry_list_sort (list_sort_tree hoL hI h64 fun out ns' a1 a2 a3 => ⟨_, rfl, ?_⟩) (args_list_sort _)))
  exact wpAny_pure ⟨_, rfl, h out ns' a1 a2 a3⟩
/-- the places of [::-1] -/
theorem back_places (n : Nat) : Builtin.Slice.slicePlaces ((n : Int) - 1) (-1) (-1) = n := by
  unfold Builtin.Slice.slicePlaces
  rw [if_neg (by omega)]
  split
  · rw [show (- -1 : Int) = 1 from rfl, Int.ediv_one]
    omega
  · omega
theorem back_parts {sl : Addr} {vl vu vs : Value} {n : Nat} {Q : Int × Int × Nat → Shared → Prop} (hs : s.heap.IsSliceOf sl vl vu vs) (pl : IsPart vl none) (pu : IsPart vu none) (ps : IsPart vs (some (-1)))
    (h : Q ((n : Int) - 1, -1, n) s) : wpAny (model prog w) A (Builtin.Slice.sliceApplied (.ref sl) (pure (n : Int))) Q E s := by
  obtain ⟨os, hos, hcs, hds⟩ := id hs
  unfold Builtin.Slice.sliceApplied Builtin.Slice.sliceFields
  refine wpAny_bind (wpAny_bind (wpAny_field hos hds (x := vl) rfl (wpAny_bind (wpAny_field hos hds (x := vu) rfl (wpAny_bind (wpAny_field hos hds (x := vs) rfl (wpAny_pure ?_)))))))
  refine wpAny_bind (HT.slicePart_ ps ?_)
  dsimp only [Option.getD]
  rw [if_neg (by decide)]
  refine wpAny_bind (HT.slicePart_ pl (wpAny_bind (HT.slicePart_ pu (wpAny_bind (wpAny_pure ?_)))))
  have ea : Builtin.Slice.sliceAdjust none none (-1) (n : Int) = ((n : Int) - 1, -1) := rfl
  rw [ea]
  dsimp only
  rw [back_places]
  exact wpAny_pure h
theorem pick_back (xs : Array Value) : ((List.range xs.size).filterMap fun (m : Nat) => xs[(((xs.size : Nat) : Int) - 1 + (m : Int) * -1).toNat]?).toArray = xs.toList.reverse.toArray := by
  congr 1
  refine List.ext_getElem? fun i => ?_
  have e : ((List.range xs.size).filterMap fun (m : Nat) => xs[(((xs.size : Nat) : Int) - 1 + (m : Int) * -1).toNat]?) = (List.range xs.size).map fun m => xs.toList.reverse.getD m .none := by
    have each : ∀ l : List Nat, (∀ m ∈ l, m < xs.size) → (l.filterMap fun (m : Nat) => xs[(((xs.size : Nat) : Int) - 1 + (m : Int) * -1).toNat]?) = l.map fun m => xs.toList.reverse.getD m .none := by
      intro l
      induction l with
      | nil => intro _; rfl
      | cons m l ih =>
        intro hl
        have hm := hl m (List.mem_cons_self ..)
        have e1 : (((xs.size : Nat) : Int) - 1 + (m : Int) * -1).toNat = xs.size - 1 - m := by omega
        have h2 : xs.size - 1 - m < xs.size := by omega
        have e2 : xs[xs.size - 1 - m]? = some (xs.toList.reverse.getD m .none) := by
          rw [List.getD_eq_getElem?_getD, List.getElem?_reverse (by simpa using hm), Array.length_toList, Array.getElem?_toList, Array.getElem?_eq_getElem h2]
          rfl
        rw [List.filterMap_cons, e1, e2, List.map_cons, ih fun y hy => hl y (List.mem_cons_of_mem _ hy)]
    exact each _ fun m hm => List.mem_range.mp hm
  rw [e]
  by_cases hi : i < xs.size
  · rw [List.getElem?_map, List.getElem?_range hi]
    have : i < xs.toList.reverse.length := by simpa using hi
    simp [List.getD_eq_getElem?_getD, this, List.getElem?_eq_getElem this]
  · rw [List.getElem?_eq_none (by simpa using hi), List.getElem?_eq_none (by simpa using hi)]
/-- t[::-1] -/
theorem getItem_tup_back {t sl : Addr} {items : Array Value} {vl vu vs : Value} {Q : Value → Shared → Prop} (ht : IsTup s.heap t items) (hs : s.heap.IsSliceOf sl vl vu vs) (pl : IsPart vl none) (pu : IsPart vu none) (ps : IsPart vs (some (-1)))
    (h : Q (.ref s.heap.objs.size) { s with heap := s.heap.push { cls := .type "tuple", data := .seq items.toList.reverse.toArray } })
    (hsz : items.size ≤ sizeLine) : wpAny (model prog w) A (getItem (.ref t) (.ref sl)) Q E s := by
  obtain ⟨os, hos, hcs, hds⟩ := id hs
  have hTs : s.TypeIs (.ref sl) "slice" := ⟨os, hos, hcs⟩
  unfold getItem
  try with_reducible refine wpAny_holding ?_
  first | refine wpAny_bind (wpAny_pure ?_) | skip
  refine wpAny_bind (wpAny_sequenceKey ht.typeIs (by decide) ?_)
  refine wpAny_bind (wpAny_callSpecial?_slot (name := Str.ofString "__getitem__") ht.typeIs PyProof.Rows.slot_tuple_getitem
    (wpAny_call_entry PyProof.Rows.slot_tuple_getitem ht.typeIs entry_tuple_getitem ?_ (args_tuple_getitem _ _)))
  show wpAny _ _ (Builtin.Tuple.tupleItemsOf (.ref t) >>= _) _ _ s
  refine wpAny_bind (tupleItemsOf_ ht ?_)
  refine wpAny_bind (wpAny_typeOf hTs ?_)
  rw [if_pos (by decide)]
  refine wpAny_bind (back_parts hs pl pu ps ?_)
  dsimp only
  have hno : ¬ ((((items.size : Nat) : Int) - 1 == 0 && (-1 : Int) == 1 && items.size == items.size) = true) := by
    rw [show ((-1 : Int) == 1) = false from rfl, Bool.and_false, Bool.false_and]
    exact Bool.false_ne_true
  rw [if_neg hno, pick_back]
  have hz : sizeOk (.seq items.toList.reverse.toArray) := by
    show items.toList.reverse.toArray.size ≤ sizeLine
    simpa using hsz
  first
    | exact wpAny_bind (m := Builtin.Tuple.tupleExact _) (wpAny_newObj_type (wpAny_pure ⟨_, rfl, wpAny_pure h⟩) hz)
    | exact wpAny_bind (m := Builtin.Tuple.tupleExact _) (wpAny_newObj_type (wpAny_bind (wpAny_pure (wpAny_pure ⟨_, rfl, wpAny_pure h⟩))) hz)
    | exact wpAny_bind (wpAny_bind (m := Builtin.Tuple.tupleExact _) (wpAny_newObj_type (wpAny_pure (wpAny_pure ⟨_, rfl, wpAny_pure h⟩)) hz))
    | exact wpAny_bind (wpAny_bind (m := Builtin.Tuple.tupleExact _) (wpAny_newObj_type (wpAny_pure ⟨_, rfl, wpAny_pure h⟩) hz))
end
section
variable {X : Cx}
/-- xs.extend(t) -/
def rExtT (K : PySem.W.Frag) : V → List V → Hp → VK → Prop := fun x vs H Q => ∃ l b xs zs, x = .ref l ∧ vs = [.ref b] ∧ H l = some (.lst xs) ∧ SqT K H b zs ∧ xs.length + zs.length ≤ sizeLine ∧ Q .non (upd H l (.lst (xs ++ zs)))
theorem mt_extT : MtM X "list.extend" (rExtT X.K) := by
  intro pins s σ H x vs v us Q I rx rv h
  obtain ⟨l, b, xs, zs, rfl, rfl, hH, hB, hz, q⟩ := h
  cases rx
  obtain ⟨u, rfl, ru⟩ := rv.one
  cases ru
  obtain ⟨z, its, n, r, hl, e⟩ := I.lstM hH
  obtain ⟨its2, r2, p2, z2⟩ := I.tuple hB
  obtain ⟨o2, ho2, hc2, n2, hd2⟩ := id p2
  have hl2 := r2.length
  have hsz : its.toArray.size + its2.toArray.size ≤ sizeLine := by
    rw [List.size_toArray, List.size_toArray]; omega
  have hlong : ¬ (!its.toArray.isEmpty && Builtin.List.listTooLong (its.toArray.size + its2.toArray.size)) = true := by
    rw [notLongL hsz, Bool.and_false]
    exact Bool.false_ne_true
  refine wpAny_call_entry PySem.F.slot_list_extend ⟨_, e, rfl⟩ PySem.F.entry_list_extend ?_ (PySem.F.args_list_extend_2 _ _)
  show wpAny _ _ (Builtin.List.listExtendWith (.ref l) (.ref b) .none) _ _ s
  unfold Builtin.List.listExtendWith
  refine wpAny_bind (wpAny_typeOf (T := "tuple") ⟨o2, ho2, hc2⟩ ?_)
  rw [if_pos (by rw [show (Value.type "tuple" == Value.type "tuple") = true from rfl]; simp)]
  refine wpAny_bind (listItems_at ho2 hd2 ?_)
  refine wpAny_bind (listItems_at e rfl ?_)
  rw [if_neg hlong]
  refine wpAny_bind (listUpdate_at e rfl ?_ (by rw [List.size_toArray]; omega) (by rw [Array.size_append]; omega))
  refine wpAny_pure ⟨_, rfl, .non, _, I.lset (t' := s.toks) (its' := its ++ its2) hH e (by simp) (r.append r2) ?_, rfl, q⟩
  rw [List.length_append]
  omega
def rSortedTu (K : PySem.W.Frag) : List V → Hp → VK → Prop := fun vs H Q => ∃ (a : Addr) (ns : List Int), vs = [V.ref a] ∧ SqT K H a (ns.map V.int) ∧ ns.length < 64 ∧
  ∀ (ns' : List Int) (p : Addr), ns'.Perm ns → ns'.Pairwise (· ≤ ·) → H p = none → Q (.ref p) (upd H p (.lst (ns'.map V.int)))
theorem cr_sortedTu : CallR X (.builtin "sorted") (rSortedTu X.K) := by
  intro pins s σ H vs us Q I r h
  obtain ⟨a, ns, rfl, hs, h64, q⟩ := h
  obtain ⟨its, rv, hl, _⟩ := I.tuple hs
  rw [Vals.ref1 r]
  have hi := rv.ints
  refine sorted_tupInts hl hi (by rw [hi.length]; exact h64) fun out ns' h1 h2 h3 => ?_
  obtain ⟨ep, he'⟩ := PyProof.Rows.sortedAll_at s.heap its out
  have hlen : (ns'.map V.int).length ≤ sizeLine := by rw [List.length_map, h2.length_eq]; exact small64 h64
  exact ⟨.ref _, upd H (s.heap.objs.size + 1) (.lst (ns'.map V.int)), I.laid (t' := s.toks) (fun _ _ => PyProof.Rows.sortedAll_old) (Nat.le_succ _) ⟨hlen, out.toList, ep, vals_of_ints h1, he'⟩, rfl, q ns' _ h2 h3 (I.hok.fresh (Nat.le_succ _))⟩
/-- t[::-1] of a tuple: a new tuple -/
def tRevT (K : PySem.W.Frag) (te : TE) : TE := fun σ H Q => te σ H fun x H1 => ∃ a xs, x = .ref a ∧ SqT K H1 a xs ∧ ∀ p, H1 p = none → Q (.ref p) (upd H1 p (.tup xs.reverse))
theorem pe_revT {e : Expr} {te : TE} {k : Nat} {p1 p2 p3 pos : Pos} (he : PE X e te) : PE X (.Subscript e (.Slice none none (some (.UnaryOp .USub (.Constant (.int 1) k p1) p2)) p3) pos) (tRevT X.K te) := by
  refine ⟨fun pins s σ H Q I h => ?_⟩
  refine Subscript_ (thn (he.run pins s σ H _ I h) fun v s1 ⟨x, H1, I1, r1, q1⟩ => ?_)
  obtain ⟨a, xs, ex, hx, q⟩ := q1
  subst ex
  cases r1
  have hst : PO X (some (.UnaryOp .USub (.Constant (.int 1) k p1) p2)) (tPart (tUn (rU fun i => .int (-i)) (tC (.int 1)))) := po_some (pe_un un_neg pe_int)
  refine wpAny_Slice (thn (po_none.run pins s1 σ H1 (fun o H2 => o = none ∧ H2 = H1) I1 ⟨rfl, rfl⟩) fun vl s2 ⟨l, H2, I2, pl, el, e2⟩ => ?_)
  subst el e2
  refine thn (po_none.run pins s2 σ H2 (fun o H3 => o = none ∧ H3 = H2) I2 ⟨rfl, rfl⟩) fun vu s3 ⟨u, H3, I3, pu, eu, e3⟩ => ?_
  subst eu e3
  refine thn (hst.run pins s3 σ H3 (fun o H4 => o = some (-1) ∧ H4 = H3) I3 ⟨1, rfl, -1, rfl, rfl, rfl⟩) fun vs s4 ⟨o, H4, I4, ps, eo, e4⟩ => ?_
  subst eo e4
  have I5 : Inv X pins σ H4 { s4 with heap := s4.heap.push { cls := .type "slice", data := .fields #[vl, vu, vs] } } := I4.kept (t' := s4.toks) fun b ob q => Heap.get?_push_of_some _ q
  obtain ⟨its, r, ht, hz⟩ := I5.tuple hx
  have hlen := r.length
  show wpAny (model X.prog X.w) X.A (subscriptTail e (.Slice none none (some (.UnaryOp .USub (.Constant (.int 1) k p1) p2)) p3) (.ref a) (.ref s4.heap.objs.size)) (EP X pins σ Q) X.xe { s4 with heap := s4.heap.push { cls := .type "slice", data := .fields #[vl, vu, vs] } }
  refine tail_any (ops := [.ref a, .ref s4.heap.objs.size]) ht.typeIs (PyProof.Rows.slot_tuple_getitem.lookup) ?_ (by with_unfolding_all rfl)
  refine getItem_tup_back ht (Heap.IsSliceOf.new _ vl vu vs) pl pu ps ?_ (by rw [List.size_toArray]; omega)
  refine ⟨.ref _, _, I5.laid (t' := s4.toks) (o := .tup xs.reverse) (fun b ob q => Heap.get?_push_of_some _ q) (Nat.le_refl _) ?_, rfl, q _ (I5.hok.fresh (Nat.le_refl _))⟩
  exact ⟨by rw [List.length_reverse]; exact hz, _, r.reverse, IsTup.new _ _⟩
end
end WR


set_option Elab.async false
set_option linter.all false
set_option maxRecDepth 100000
set_option maxHeartbeats 4000000
/-! enumerate of a tuple; its walk. -/
namespace WR
open PySem PySem.Spec PyProof.Rows L2
open AutoSeq1 (wpAny_loadPart')
theorem enum_new_tup (l : Addr) (items : Array Value) (n : Nat) (dct : Option Addr) (sl : Array (Option Value)) :
    Meets (Builtin.«enumerate.__new__» ⟨[.type "enumerate", .ref l], []⟩) (fun _ R s => s.heap.get? l = some { cls := .type "tuple", dict := dct, data := .seq items n, slots := sl } ∧
      R (.ok (.ret (.ref (s.heap.push { cls := .type "tuple_iterator", data := .fields #[.ref l, .int 0 0] }).objs.size)))
        { s with heap := (s.heap.push { cls := .type "tuple_iterator", data := .fields #[.ref l, .int 0 0] }).push { cls := .type "enumerate", data := .fields #[.none, .bool false, .ref s.heap.objs.size, rawInt 0, .none, .none] } }) :=
  .of_wp fun prog w A R s h => by
    obtain ⟨hp, g, d, tk, os⟩ := s; obtain ⟨hl, h⟩ := h
    have hsub := sub_enumerate
    have hL : Heap.IsTuple (Shared.heap ⟨hp, g, d, tk, os⟩) l items := ⟨_, hl, rfl, n, rfl⟩
    wp_walk using wpAny_loadPart' hl
    refine wpAny_stack_any fun st => wpAny_pure ?_
    split
    · rename_i c _ _ _ _ _
      cases (c == Value.type "enumerate")
      · wp_walk using wpAny_loadPart' hl, wpAny_pyIter_tuple hL
        exact ⟨_, rfl, h⟩
      · wp_walk using wpAny_loadPart' hl, wpAny_pyIter_tuple hL
        exact ⟨_, rfl, h⟩
    · wp_walk using wpAny_loadPart' hl, wpAny_pyIter_tuple hL
      exact ⟨_, rfl, h⟩
section
variable {prog : Program} {w : World} {A : Around} {E : Value → Shared → Prop} {s : Shared}
theorem call_enum_tup {l : Addr} {items : Array Value} {Q : Value → Shared → Prop} (hL : s.heap.IsTuple l items)
    (h : ∀ h', IsEnum h' (s.heap.objs.size + 1) s.heap.objs.size 0 .none → h'.IsTupleIter s.heap.objs.size l 0 → h'.objs.size = s.heap.objs.size + 2 →
      (∀ b o, s.heap.get? b = some o → h'.get? b = some o) → Q (.ref (s.heap.objs.size + 1)) { s with heap := h' }) :
    wpAny (model prog w) A (call (.type "enumerate") [.ref l]) Q E s := by
  obtain ⟨⟨c, dct, dt, sl⟩, hl, hc, n, hd⟩ := hL
  replace hc : c = .type "tuple" := hc
  replace hd : dt = .seq items n := hd
  subst hc hd
  refine callType_new F.called_enumerate (by decide) (F.typeCall_enumerate_1 _) (F.newCall_enumerate_1 _) (fun obj => F.args_object_init_2 obj _) F.entry_enumerate_new
    (enum_new_tup l items n dct sl) ⟨hl, ?_⟩
  have hz : (s.heap.push { cls := .type "tuple_iterator", data := .fields #[.ref l, .int 0 0] }).objs.size = s.heap.objs.size + 1 := Heap.size_push ..
  show _ ∧ _
  rw [hz]
  have he : IsEnum ((s.heap.push { cls := .type "tuple_iterator", data := .fields #[.ref l, .int 0 0] }).push
      { cls := .type "enumerate", data := .fields #[.none, .bool false, .ref s.heap.objs.size, rawInt 0, .none, .none] }) (s.heap.objs.size + 1) s.heap.objs.size 0 .none := by
    have := Heap.get?_push_size (s.heap.push { cls := .type "tuple_iterator", data := .fields #[.ref l, .int 0 0] })
      (o := { cls := .type "enumerate", data := .fields #[.none, .bool false, .ref s.heap.objs.size, rawInt 0, .none, .none] }) rfl
    rw [hz] at this; exact this
  exact ⟨⟨_, he, rfl⟩, h _ he ⟨_, Heap.get?_push_of_some _ (Heap.get?_push_size _ rfl), rfl, rfl⟩ (by rw [Heap.size_push, hz]) fun b o x => Heap.get?_push_of_some _ (Heap.get?_push_of_some _ x)⟩
end
/-- the tuple at a, each item in a new pair with its place -/
def IteT (K : PySem.W.Frag) (a : Addr) : It :=
  ⟨fun i H => ∃ (xs : List V) (x : V), SqT K H a xs ∧ xs[i]? = some x, fun i H v H' => ∃ T x, v = .ref T ∧ H T = none ∧ H' = upd H T (.tup [.int (i : Nat), x]) ∧ ∀ xs, SqT K H a xs → xs[i]? = some x, fun i H => ∃ xs : List V, SqT K H a xs ∧ i = xs.length⟩
theorem turn_enumT {P : Program} {w : World} {K : PySem.W.Frag} {elts : List Expr} {kk : Nat} {tpos : Pos} (a e it : Addr) :
    Turn P w K (.Tuple elts kk tpos) (IteT K a) [e, it] e (fun i h => (∃ old, IsEnum h e it ((i : Nat) : Int) old) ∧ h.IsTupleIter it a i ∧ e ≠ it ∧ a ≠ it ∧ a ≠ e) where
  mem := by simp
  obj := fun i h st b hb => by
    obtain ⟨⟨old, he⟩, ⟨o, ho, hc, hd⟩, _⟩ := st
    have e' : b = e ∨ b = it := by simpa using hb
    rcases e' with z | z
    · rw [z]; exact ⟨_, he, fun v q => nomatch q⟩
    · rw [z]; exact ⟨o, ho, fun v q => by rw [hd] at q; cases q⟩
  keep := fun i h h' st k => let ⟨⟨old, he⟩, hi, hne⟩ := st; ⟨⟨old, k e (by simp) _ he⟩, hi.at fun o q => k it (by simp) o q, hne⟩
  item := by
    intro X hP hw hK hc i pins s σ H E I hf st hg
    subst hP hw hK
    obtain ⟨⟨old, he⟩, hit, hne, hai, hae⟩ := st
    obtain ⟨xs, x, hq, hx⟩ := hg
    obtain ⟨its, rv, p, hz⟩ := I.tuple hq
    obtain ⟨u, hu, ru⟩ := rv.get hx
    have hel : e < s.heap.objs.size := Heap.lt_size he
    have hil : it < s.heap.objs.size := by obtain ⟨_, q, _⟩ := hit; exact Heap.lt_size q
    have hlt : i < its.toArray.size := by
      have := (List.getElem?_eq_some_iff.mp hu).1
      simpa using this
    refine wpAny_pyNext_enum_itemD (fp := [it, a]) (Draws.tuple (A := X.A.in1) (show X.A.in1.handled = none from I.ok.hd hc) it a hai its.toArray) he ⟨hit, p⟩ hlt hne (by simp [hne, Ne.symm hae]) fun x' h' tk hx' ho st' hT hsz hk => ?_
    have ex : x' = u := by
      have hu' : its.toArray[i]? = some u := by simpa using hu
      rw [hu'] at hx'
      exact (Option.some.inj hx').symm
    subst ex
    obtain ⟨hit', _⟩ := st'
    refine ⟨_, rfl, wpAny_letOwnedTupleGo_enum (s := { s with heap := h', toks := tk + 1 }) ho fun h'' he' sb => ?_⟩
    have hT2 : h''.get? s.heap.objs.size = some { cls := .type "tuple", data := .seq #[.int i tk, x'] } := (sb.2 _ (Nat.ne_of_gt hel)).trans hT
    have new : ObjOk X.prog X.w (upd H s.heap.objs.size (.tup [.int (i : Nat), x])) h'' s.heap.objs.size (.tup [.int (i : Nat), x]) :=
      ⟨by show 2 ≤ sizeLine; decide, [.int i tk, x'], .cons ⟨_, rfl⟩ (.cons ru .nil), ⟨_, hT2, rfl, _, rfl⟩⟩
    have I1 : Inv X pins σ (upd H s.heap.objs.size (.tup [.int (i : Nat), x])) { s with heap := h'', toks := tk + 1 } :=
      I.turnedNew (ch := [e, it]) (fun b ob hb q => (sb.2 b (fun z => hb (by simp [z]))).trans (hk b ob (fun z => hb (by simp [z])) (fun z => hb (by simp [z])) q)) hf (Nat.le_refl _) new
    refine ⟨.ref s.heap.objs.size, _, I1, rfl, ⟨_, x, rfl, I.hok.fresh (Nat.le_refl _), rfl, fun ys hy => by rw [I.tuple_inj hy hq]; exact hx⟩, ⟨⟨x', ?_⟩, hit'.at fun o q => (sb.2 it (Ne.symm hne)).trans q, hne, hai, hae⟩, fun b hb => ?_⟩
    · have e1 : ((i + 1 : Nat) : Int) = (i : Int) + 1 := by omega
      rw [e1]; exact he'
    · have hb' : b < s.heap.objs.size := by
        have e' : b = e ∨ b = it := by simpa using hb
        rcases e' with z | z
        · rw [z]; exact hel
        · rw [z]; exact hil
      rw [upd_ne (Nat.ne_of_lt hb')]
      exact (hf b hb).1
  done := by
    intro X hP hw hK hc i pins s σ H E I hf st hg
    subst hP hw hK
    obtain ⟨⟨old, he⟩, hit, hne, hai, hae⟩ := st
    obtain ⟨xs, hq, hx⟩ := hg
    obtain ⟨its, rv, p, hz⟩ := I.tuple hq
    obtain ⟨f0, f1, f2, f3, f4, f5⟩ := hf it (by simp)
    have hl := rv.length
    have hn : its.toArray.size = i := by rw [List.size_toArray]; omega
    refine wpAny_pyNext_enum_endD (fp := [it, a]) (Draws.tuple (A := X.A.in1) (show X.A.in1.handled = none from I.ok.hd hc) it a hai its.toArray) he ⟨hn ▸ hit, p⟩ fun h' eb => ⟨rfl, I.turned (t' := s.toks) (fun b o hb q => eb b o hb q) f0 f1 f3 f4 f5⟩
  self := fun A i s Q E st h => let ⟨⟨_, he⟩, _⟩ := st; wpAny_pyIter_enum he h
def iEnumT (K : PySem.W.Frag) (ta : TA) : TI := fun σ H R => ta σ H fun vs H1 => ∃ a xs, vs = [.ref a] ∧ SqT K H1 a xs ∧ R (IteT K a) H1
theorem pi_enumT {X : Cx} {e : Expr} {ta : TA} {p pos tpos : Pos} {elts : List Expr} {kk : Nat} (hg : Gl X "enumerate") (hm : X.mg "enumerate" = none) (ha : PA X [e] ta) (hs : starEach [e] X.env = [(false, eval e X.env)] := by rfl) :
    PI X (.Tuple elts kk tpos) (.Call (.Name "enumerate" p) [e] [] pos) (iEnumT X.K ta) := by
  refine ⟨fun pins s σ H R I h => ?_⟩
  refine Call_ (ld_blt I hg hm boot_enumerate (PyProof.Rows.callWith_type1 (thn (ha.run pos pins s σ H _ I h) fun us s1 ⟨vs, H1, I1, r1, q1⟩ => ?_) hs rfl))
  obtain ⟨a, xs, ex, hq, q⟩ := q1
  subst ex
  cases r1 with
  | cons r rr =>
    cases rr
    cases r
    obtain ⟨its, rv, p', hz⟩ := I1.tuple hq
    have hal : a < s1.heap.objs.size := by
      obtain ⟨o, ho, _⟩ := id p'
      exact Heap.lt_size ho
    refine call_enum_tup p' fun h' he hit hsz hk => wpAny_pyIter_enum he ?_
    have I2 : Inv X pins σ H1 { s1 with heap := h' } := I1.kept (t' := s1.toks) hk
    refine ⟨s1.heap.objs.size + 1, [s1.heap.objs.size + 1, s1.heap.objs.size], _, _, H1, rfl, I2, turn_enumT a (s1.heap.objs.size + 1) s1.heap.objs.size, ⟨⟨.none, he⟩, hit, Nat.succ_ne_self _, Nat.ne_of_lt hal, Nat.ne_of_lt (Nat.lt_succ_of_lt hal)⟩, fun b hb => ?_, q⟩
    have e' : b = s1.heap.objs.size + 1 ∨ b = s1.heap.objs.size := by simpa using hb
    have hle : s1.heap.objs.size ≤ b := by
      rcases e' with z | z
      · rw [z]; exact Nat.le_add_right _ _
      · rw [z]; exact Nat.le_refl _
    exact I1.fpOk hle (I1.hok.fresh hle)
end WR


set_option Elab.async false
set_option linter.all false
set_option maxRecDepth 100000
set_option maxHeartbeats 4000000
/-! A dict display of one pair whose key is a tuple. -/
namespace WR
open PySem PySem.Spec PyProof.Rows L2
/-- {k: v}, k a tuple of ints and texts -/
def tDisp1 (tk tv : TE) : TE := fun σ H Q => ∀ d, H d = none → tPairs [(tk, tv)] σ (upd H d (.dT [])) fun ps H2 => H2 d = some (.dT []) ∧ ∃ b k y, ps = [(V.ref b, y)] ∧ H2 b = some (.tup (k.map kV)) ∧ Q (.ref d) (upd H2 d (.dT [(k, y)]))
theorem pe_disp1 {X : Cx} {pos : Pos} {ek ev : Expr} {tk tv : TE} (hu : X.A.units + 1 < cLine) (hk : PE X ek tk) (hv : PE X ev tv) : PE X (.Dict [some ek] [ev] pos) (tDisp1 tk tv) := by
  refine ⟨fun pins s σ H Q I q => ?_⟩
  have hn := I.hok.fresh (Nat.le_refl s.heap.objs.size)
  have I1 := I.laid (a := s.heap.objs.size) (o := .dT []) (h' := s.heap.push { cls := .type "dict", data := .dict #[] }) (t' := s.toks) (fun _ _ q => Heap.get?_push_of_some _ q) (Nat.le_refl _) (dt_empty s.heap I.big)
  have hshape := zip_pairTrees [some ek] [ev] X.env pos rfl rfl
  have hlen := pairTrees_length [some ek] [ev] X.env pos rfl rfl
  rw [List.length_singleton] at hlen
  have h0 : pairTrees [some ek] [ev] X.env pos ≠ [] := fun e => by
    rw [e] at hlen
    cases hlen
  rw [arm_eval_Dict, hshape, dictDisplay_pairs _ h0 (by rw [hlen]; decide)]
  refine wpAny_bind (wpAny_standAt (wpAny_bind (wpAny_subDictH (knd := tupleKind (mixKind X.prog X.w)) (Q := fun d s' => wpAny (model X.prog X.w) X.A (pure (Value.ref d)) (EP X pins σ Q) X.xe s') (Nat.lt_of_succ_lt hu) (by rw [hlen]; decide)
    (thn ((pps_cons (pos := pos) hk hv pps_nil).run pins _ σ _ _ I1 (q _ hn)) fun ws s2 ⟨ps, H2, I2, rel, e, b, k, y, ep, eb, q2⟩ => ?_))))
  subst ep
  obtain ⟨z, hd, xs0, r0, dd⟩ := dt_of I2.hok e
  cases r0
  cases rel with
  | @cons _ wv _ ws' h t =>
    cases t
    obtain ⟨h1, h2⟩ := h
    obtain ⟨w1, w2⟩ := wv
    cases (show w1 = Value.ref b from h1)
    refine ⟨[(k, b, w2)], ⟨rfl, rfl, key_of I2.hok eb, trivial⟩, dd, fun h' tk' dd' hs => wpAny_pure ⟨.ref s.heap.objs.size, _, ?_, rfl, q2⟩⟩
    obtain ⟨q', es, ep, hq, g2, g3, g4, _, g5⟩ := dd'
    refine d_write (t' := tk') I2 (by rw [e]; exact True.intro) hs ⟨q', hq⟩ ⟨by rw [sizeLine_eq, List.length_singleton]; omega, hd, _, .cons ⟨rfl, ?_, h2⟩ .nil, q', es, ep, hq, g2, g3, g4, g5⟩
    rw [upd_ne (ne_of eb e (fun z => nomatch z))]
    exact eb
end WR


set_option Elab.async false
set_option linter.all false
set_option maxRecDepth 100000
set_option maxHeartbeats 8000000
/-! set(xs), xs a list of any length of tuples of ints, fewer than 64 of them unlike. -/
namespace WR
open PySem PySem.Spec PyProof.Rows L2
section
variable {P : Program} {w : World} {A : Around} {E : Value → Shared → Prop} {s : Shared} {a : Addr} {L : List (Addr × List Int)} {es : Array (Int × Value)} {ep : Nat} {t : SetTable}
/-- what stands in the set already is not laid again -/
theorem add_again (R : SetTR P w s.heap a L es ep t) {x : Addr} {k : List Int} (hx : IsT P w s.heap k x) (hu : A.units < cLine) (hm : k ∈ L.map (·.2)) {Q : Bool → Shared → Prop} (hQ : Q false s) :
    wpAny (model P w) A (setAddHashed a (.ref x) (thash P w k)) Q E s := by
  obtain ⟨o, ho, _, hd⟩ := R.ob
  unfold setAddHashed
  refine wpAny_holding ?_
  rw [show (100000 : Nat) = 99999 + 1 from rfl, setAddHashedIn_succ]
  refine wpAny_bind (wpAny_setState_of ho hd R.fits ?_)
  dsimp only
  refine wp_if_neg (by simp [byScan, Value.scannable]) ?_
  try refine wpAny_bind (wpAny_pure ?_)
  refine wpAny_bind (search_at R hx hu (fun _ => ?_) fun _ hn => absurd hm hn)
  dsimp only
  exact wpAny_pure hQ
/-- fewer than 64 of the keys are unlike -/
def Few (ks : List (Addr × List Int)) : Prop := ∀ D : List (List Int), D.Nodup → (∀ d ∈ D, d ∈ ks.map (·.2)) → D.length < 64
/-- the set at S holds what the first i items are -/
def Filled (P : Program) (w : World) (ks : List (Addr × List Int)) (S : Addr) (i : Nat) (h : Heap) : Prop := ∃ L es ep t, SetTR P w h S L es ep t ∧ Got ks i L
/-- one item more -/
theorem filled_next {ks : List (Addr × List Int)} (hfew : Few ks) {S : Addr} {i : Nat} (F : Filled P w ks S i s.heap) {p : Addr × List Int} (hp : ks[i]? = some p) (hx : IsT P w s.heap p.2 p.1) (hu : A.units < cLine)
    {Q : Bool → Shared → Prop} (hQ : ∀ b h' tk, s.toks ≤ tk → Heap.SameBut S s.heap h' → Filled P w ks S (i + 1) h' → Q b { s with heap := h', toks := tk }) :
    wpAny (model P w) A (setAdd S (.ref p.1)) Q E s := by
  obtain ⟨L, es, ep, t, R, g⟩ := F
  unfold setAdd
  refine wpAny_holding ?_
  refine wpAny_bind (wpAny_pyHash_tuple hu hx ?_)
  by_cases c : p.2 ∈ L.map (·.2)
  · have R' : SetTR P w ({ s with toks := s.toks + (p.2.length + 1) } : Shared).heap S L es ep t := R
    exact add_again R' hx hu c (hQ false s.heap _ (Nat.le_add_right _ _) (Heap.SameBut.refl S s.heap) ⟨L, es, ep, t, R, g.same hp c⟩)
  · have lt : L.length + 1 < 64 := by
      have z := hfew (p.2 :: L.map (·.2)) (List.nodup_cons.mpr ⟨c, R.nd⟩) fun d hd => by
        rcases List.mem_cons.mp hd with e | hd
        · rw [e]
          exact List.mem_map.mpr ⟨p, List.mem_of_getElem? hp, rfl⟩
        · obtain ⟨q, hq, e⟩ := List.mem_map.mp hd
          rw [← e]
          exact List.mem_map.mpr ⟨q, List.mem_of_mem_take (g.sub q hq), rfl⟩
      rw [List.length_cons, List.length_map] at z
      exact z
    have R' : SetTR P w ({ s with toks := s.toks + (p.2.length + 1) } : Shared).heap S L es ep t := R
    refine add_at R' hx hu lt fun b h' L' es' ep' t' hsb R2 _ c2 => ?_
    exact hQ b h' _ (Nat.le_add_right _ _) hsb ⟨L', es', ep', t', R2, g.more hp (c2 c)⟩
/-- all items, one by one -/
theorem fill_set {I : Addr} {fp wr : List Addr} {G : Array GenState → Array GenState → Prop} {n : Nat} {Pv : Nat → Value → Prop} {St : Nat → Shared → Prop} {R : Result → Shared → Prop}
    (W : WalksS P w A.in1 I fp wr G n Pv St) (S : Addr) (hSf : S ∉ fp) (ks : List (Addr × List Int)) (hn : n = ks.length) (hfew : Few ks) (hval : ∀ i v, Pv i v → ∃ p, ks[i]? = some p ∧ v = .ref p.1)
    (h0 : Heap) (hk : ∀ p ∈ ks, IsT P w h0 p.2 p.1) (hS0 : h0.get? S = none) (hw0 : ∀ b ∈ wr, h0.get? b = none) (hu : A.in1.units < cLine)
    (hR : ∀ s', Moved (S :: wr) G s s' → Filled P w ks S n s'.heap → (∀ b o, h0.get? b = some o → s'.heap.get? b = some o) → R (.ok (.ret .none)) s') :
    ∀ (k i : Nat) (s1 : Shared), i + k = n → St i s1 → Moved (S :: wr) G s s1 → (∀ b o, h0.get? b = some o → s1.heap.get? b = some o) → Filled P w ks S i s1.heap →
      codeAny (model P w) A (.builtin "set.update.loop" ⟨[.ref S, .ref I], []⟩) R s1 := by
  have hSw : S ∉ wr := fun h => hSf (W.sub _ h)
  -- the walk's own writes leave the set and what stood before
  have still : ∀ {s1 s2 : Shared} {i : Nat}, Moved wr G s1 s2 → (∀ b o, h0.get? b = some o → s1.heap.get? b = some o) → Filled P w ks S i s1.heap →
      (∀ b o, h0.get? b = some o → s2.heap.get? b = some o) ∧ Filled P w ks S i s2.heap := fun {s1 s2 i} hm hkp ⟨L, es, ep, t, hS, g⟩ => by
    have kp : ∀ b o, h0.get? b = some o → s2.heap.get? b = some o := fun b o e => hm.heap b o (fun hb => by rw [hw0 b hb] at e; cases e) (hkp b o e)
    exact ⟨kp, L, es, ep, t, hS.keep (fun o e => hm.heap S o hSw e) fun p hp => isT_keep (hk p (List.mem_of_mem_take (g.sub p hp))) kp, g⟩
  intro k
  induction k with
  | zero =>
    intro i s1 hi hst hM hkp hF
    have e : i = n := by omega
    subst e
    refine codeAny_builtin F.entry_set_update_loop ?_
    rw [Around.under_plainId F.plain_set_update_loop _]
    show wpAny _ A.in1 (pyNext (.ref I) >>= _) _ _ s1
    refine wpAny_bind (W.done s1 _ _ hst fun s2 hm => ?_)
    obtain ⟨kp, hF2⟩ := still hm hkp hF
    show wpAny _ A.in1 (ret Value.none) _ _ s2
    exact wpAny_pure (hR s2 (Moved.trans W.gtrans hM (hm.mono fun b hb => List.mem_cons_of_mem _ hb)) hF2 kp)
  | succ k ih =>
    intro i s1 hi hst hM hkp hF
    refine codeAny_builtin F.entry_set_update_loop ?_
    rw [Around.under_plainId F.plain_set_update_loop _]
    show wpAny _ A.in1 (pyNext (.ref I) >>= _) _ _ s1
    refine wpAny_bind (W.item i s1 _ _ (by omega) hst fun v s2 hP hst2 hm => ?_)
    obtain ⟨p, hp, rfl⟩ := hval i v hP
    obtain ⟨kp, hF2⟩ := still hm hkp hF
    show wpAny _ A.in1 (holding [Value.ref p.1] (setAdd S (.ref p.1)) >>= _) _ _ s2
    refine wpAny_bind (wpAny_holding (filled_next hfew hF2 hp (isT_keep (hk p (List.mem_of_getElem? hp)) kp) hu fun b h' tk htk hsb hF3 => ?_))
    have kp3 : ∀ b o, h0.get? b = some o → h'.get? b = some o := fun b o e => (hsb.2 b (fun z => by rw [z, hS0] at e; cases e)).trans (kp b o e)
    refine wpAny_pure ⟨plainId_quiet F.plain_set_update_loop _, ih (i + 1) _ (by omega) (W.frame _ s2 _ _ hst2 htk fun b hb o e => ?_) (Moved.trans W.gtrans hM ((hm.mono fun b hb => List.mem_cons_of_mem _ hb).then_heap htk fun b o hb e => ?_)) kp3 hF3⟩
    · rw [hsb.2 b (fun h : b = S => hSf (by rw [← h]; exact hb))]; exact e
    · rw [hsb.2 b (fun h : b = S => hb (by rw [h]; exact List.mem_cons_self))]; exact e
/-- a set just made -/
abbrev bare (w : World) : Obj := { cls := .type "set", dict := none, data := .set #[] 0 (.fresh 0 0 (!w.params.followText "set-order")) }
/-- set(l) -/
theorem call_set_few {l : Addr} {items : Array Value} (ks : List (Addr × List Int)) {Q : Value → Shared → Prop} (hh : A.handled = none) (hl : s.heap.IsList l items) (hit : items.toList = ks.map fun p => Value.ref p.1)
    (hk : ∀ p ∈ ks, IsT P w s.heap p.2 p.1) (hfew : Few ks) (hu : A.units + 3 < cLine)
    (h : ∀ (h' : Heap) (tk : Nat), Filled P w ks s.heap.objs.size ks.length h' → (∀ b o, s.heap.get? b = some o → h'.get? b = some o) → Q (.ref s.heap.objs.size) { s with heap := h', toks := tk }) :
    wpAny (model P w) A (call (.type "set") [.ref l]) Q E s := by
  have hisz : items.size = ks.length := by
    have q := congrArg List.length hit
    rw [Array.length_toList, List.length_map] at q
    exact q
  obtain ⟨c, tl, hmro⟩ := F.called_set.mro
  have hmade := F.called_set.made
  have hsub := F.called_set.sub
  refine wpAny_call (codeAny_of_tree ?_)
  show wpAny _ _ (callAny (.type "set") _) _ _ _
  refine wpAny_pure ⟨Code.quiet_builtin _ (by decide +kernel), codeAny_builtin F.entry_type_call ?_⟩
  rw [Around.under_plain (weight_type_call_type "set" [.ref l] []) rfl]
  have h1 := F.called_set.notType
  have h2 := F.called_set.canCreate
  have hct := F.typeCall_set_1 (.ref l)
  repeat (any_goals (first | assumption | wp_step))
  refine codeAny_mono (code_set_led1 (.ref l) (E := E) (Q₁ := fun v s1 => v = .ref s.heap.objs.size ∧ s1 = { s with heap := s.heap.push (bare w) }) ⟨rfl, rfl⟩) fun r s1 hr => ?_
  cases r with
  | error e => exact hr
  | ok fl =>
    cases fl with
    | ret v =>
      obtain ⟨rfl, rfl⟩ := hr
      have hS : (s.heap.push (bare w)).get? s.heap.objs.size = some (bare w) := Heap.get?_push_size _ rfl
      have hT : Shared.TypeIs { s with heap := s.heap.push (bare w) } (.ref s.heap.objs.size) "set" := ⟨_, hS, rfl⟩
      have hli := F.called_set.init.lookup
      have hbi := F.called_set.init.bind (.ref s.heap.objs.size)
      repeat (any_goals (first | assumption | wp_step))
      refine codeAny_mono (codeAny_call_builtin (R := wants (fun r s2 => r = .none ∧ ∃ h' tk, s2 = { s with heap := h', toks := tk } ∧ Filled P w ks s.heap.objs.size ks.length h' ∧
          (∀ b o, s.heap.get? b = some o → h'.get? b = some o)) E) F.called_set.init.plain F.entry_set_init (check_set_init_1 hT ?_)) fun r2 s2 hr2 => ?_
      · obtain ⟨ol, hol, hcl, nl, hdl⟩ := hl
        obtain ⟨ocls, odict, odata, oslots⟩ := ol
        simp only at hcl hdl
        subst hcl; subst hdl
        have hol' : (s.heap.push (bare w)).get? l = some { cls := .type "list", dict := odict, data := .seq items nl, slots := oslots } := Heap.get?_push_of_some _ hol
        have hsls := F.sub_list_set
        have hslf := F.sub_list_frozenset
        have hne : (Value.type "list" == Value.type "dict") = false := by decide
        have hl1 : (s.heap.push (bare w)).IsList l items := ⟨_, hol', rfl, nl, rfl⟩
        unfold Builtin.«set.__init__» noKeywords Builtin.Frozenset.updateFrom
        generalize hPI : pyIter = PI
        wp_walk
        subst hPI
        refine wpAny_pyIter_list hl1 ?_
        refine wpAny_bind (wpAny_runValue ?_)
        have hlS : l < s.heap.objs.size := Heap.lt_size hol
        have hh3 : A.in1.in1.in1.handled = none := by simp [hh]
        have hneI : l ≠ (s.heap.push (bare w)).objs.size := by
          rw [Heap.size_push]; exact Nat.ne_of_lt (Nat.lt_succ_of_lt hlS)
        have hSf : s.heap.objs.size ∉ [(s.heap.push (bare w)).objs.size, l] := by
          rw [Heap.size_push]
          simp only [List.mem_cons, List.not_mem_nil, or_false, not_or]
          exact ⟨Nat.ne_of_lt (Nat.lt_succ_self _), Nat.ne_of_gt hlS⟩
        have hval : ∀ (i : Nat) (v : Value), items[i]? = some v → ∃ p, ks[i]? = some p ∧ v = .ref p.1 := fun i v hv => by
          have q : (ks.map fun p => Value.ref p.1)[i]? = some v := by rw [← hit, Array.getElem?_toList]; exact hv
          rw [List.getElem?_map] at q
          obtain ⟨p, hp, e⟩ := Option.map_eq_some_iff.mp q
          exact ⟨p, hp, e.symm⟩
        have off : ∀ b, s.heap.objs.size ≤ b → s.heap.get? b = none := fun b hb => Heap.get?_none_of_le hb
        refine fill_set (s := { s with heap := (s.heap.push (bare w)).push { cls := .type "list_iterator", data := .fields #[.ref l, .int 0 0] } }) ((Walks.list hh3 _ l hneI items).toS) s.heap.objs.size hSf ks hisz hfew hval s.heap hk (off _ (Nat.le_refl _))
          (fun b hb => off b (by rw [List.mem_singleton.mp hb, Heap.size_push]; exact Nat.le_succ _)) hu (fun s' hm hF hkp => ?_) items.size 0 _ (Nat.zero_add _)
          ⟨⟨_, Heap.get?_push_size _ rfl, rfl, rfl⟩, (hl1.push _)⟩ (Moved.refl fun _ => rfl) (fun b o e => Heap.get?_push_of_some _ (Heap.get?_push_of_some _ e))
          ⟨[], #[], 0, _, setTR_fresh (Heap.get?_push_of_some _ hS), Got.zero ks⟩
        obtain ⟨h', g2, d', tk', os'⟩ := s'
        have eg : g2 = s.gens := hm.gens
        have ed : d' = s.drawn := hm.drawn
        have eo : os' = s.os := hm.os
        subst eg; subst ed; subst eo
        show wpAny _ _ _ _ _ _
        refine wpAny_pure ?_
        show wpAny _ _ (ret Value.none) _ _ _
        rw [hisz] at hF
        exact wpAny_pure ⟨rfl, h', tk', rfl, hF, hkp⟩
      · cases r2 with
        | error e => exact hr2
        | ok fl2 =>
          cases fl2 with
          | ret r =>
            obtain ⟨rfl, h', tk, rfl, hF, hk'⟩ := hr2
            repeat (any_goals (first | assumption | wp_step))
            exact h _ _ hF hk'
          | _ => exact hr2.elim
    | _ => exact hr.elim
end
section
variable {X : Cx}
/-- set(xs): the set's members are of the list's, each of the list's keys is there once -/
def rSetFew (K : PySem.W.Frag) (P : Program) (w : World) : List V → Hp → VK → Prop := fun xs H Q => ∃ (l : Addr) (ks : List (Addr × List Int)), xs = [V.ref l] ∧ SqL K H l (ks.map fun p => V.ref p.1) ∧ (∀ p ∈ ks, SqT K H p.1 (p.2.map V.int)) ∧ Few ks ∧
  ∀ a L, H a = none → (∀ p ∈ L, p ∈ ks) → (∀ p ∈ ks, p.2 ∈ L.map (·.2)) → Q (.ref a) (upd H a (SetTO P w a L))
theorem cr_setFew (hc : X.calm = true) (hu : X.A.units + 64 < cLine) : CallR X (.type "set") (rSetFew X.K X.prog X.w) := by
  intro pins s σ H xs us Q I r h
  obtain ⟨l, ks, rfl, hl, hk, hf, q⟩ := h
  rw [Vals.ref1 r]
  obtain ⟨its, rv, pl, hz⟩ := I.list hl
  refine call_set_few (P := X.prog) (w := X.w) ks (I.ok.hd hc) pl.isList (by simpa using refs_of_vals rv) (fun p hp => I.isT (hk p hp)) hf (by omega) fun h' tk ⟨L, es, ep, t, R, g⟩ k => ?_
  refine ⟨.ref s.heap.objs.size, upd H s.heap.objs.size (SetTO X.prog X.w s.heap.objs.size L), I.laid (t' := tk) k (Nat.le_refl _) (setTO_new R.t0), rfl, q _ L (I.hok.fresh (Nat.le_refl _)) (fun p hp => List.mem_of_mem_take (g.sub p hp)) fun p hp => ?_⟩
  exact g.all p (by rw [List.take_length]; exact hp)
end
end WR


set_option Elab.async false
set_option linter.all false
set_option maxRecDepth 100000
set_option maxHeartbeats 8000000
/-! sorted of a set of tuples of ints of unlike lengths: the order is told by a rank. -/
namespace WR
open PySem PyProof.Rows L2
/-! ### the rank of a list of ints from 0, read from the left -/
def Lw (B : Int) (l : List Int) : Prop := ∀ x ∈ l, 0 ≤ x ∧ x < B
theorem Lw.tail {B x : Int} {l : List Int} (h : Lw B (x :: l)) : Lw B l := fun y hy => h y (List.mem_cons_of_mem _ hy)
def rank (B : Int) : Nat → List Int → Int
  | 0, _ => 0
  | _ + 1, [] => 0
  | d + 1, x :: l => (x + 1) * (B + 1) ^ d + rank B d l
theorem pw_pos {B : Int} (hB : 0 ≤ B) : ∀ d : Nat, 0 < (B + 1) ^ d
  | 0 => by rw [Int.pow_zero]; decide
  | d + 1 => by
    rw [Int.pow_succ]
    exact Int.mul_pos (pw_pos hB d) (by omega)
theorem rank_bd {B : Int} (hB : 0 ≤ B) : ∀ (d : Nat) (l : List Int), l.length ≤ d → Lw B l → 0 ≤ rank B d l ∧ rank B d l < (B + 1) ^ d
  | 0, l, _, _ => ⟨Int.le_refl _, pw_pos hB 0⟩
  | d + 1, [], _, _ => ⟨Int.le_refl _, pw_pos hB (d + 1)⟩
  | d + 1, x :: l, hl, h => by
    obtain ⟨c0, c1⟩ := rank_bd hB d l (by simpa using hl) h.tail
    obtain ⟨x0, x1⟩ := h x (List.mem_cons_self ..)
    have hp := pw_pos hB d
    have h1 : 0 ≤ (x + 1) * (B + 1) ^ d := Int.mul_nonneg (by omega) (Int.le_of_lt hp)
    have h2 : (x + 1) * (B + 1) ^ d ≤ B * (B + 1) ^ d := Int.mul_le_mul_of_nonneg_right (by omega) (Int.le_of_lt hp)
    have h3 : (B + 1) ^ (d + 1) = B * (B + 1) ^ d + (B + 1) ^ d := by rw [Int.pow_succ, Int.mul_comm, Int.add_mul, Int.one_mul]
    constructor
    · show 0 ≤ (x + 1) * (B + 1) ^ d + rank B d l
      omega
    · show (x + 1) * (B + 1) ^ d + rank B d l < (B + 1) ^ (d + 1)
      rw [h3]
      omega
theorem rank_lt {B : Int} (hB : 0 ≤ B) {d : Nat} {x y : Int} {l m : List Int} (hl : l.length ≤ d) (hm : m.length ≤ d) (h1 : Lw B l) (h2 : Lw B m) (h : x < y) : rank B (d + 1) (x :: l) < rank B (d + 1) (y :: m) := by
  obtain ⟨_, c1⟩ := rank_bd hB d l hl h1
  obtain ⟨c2, _⟩ := rank_bd hB d m hm h2
  have hp := pw_pos hB d
  have h3 : (x + 1) * (B + 1) ^ d + (B + 1) ^ d ≤ (y + 1) * (B + 1) ^ d := by
    have e : (x + 1) * (B + 1) ^ d + (B + 1) ^ d = (x + 1 + 1) * (B + 1) ^ d := by rw [Int.add_mul (x + 1), Int.one_mul]
    rw [e]
    exact Int.mul_le_mul_of_nonneg_right (by omega) (Int.le_of_lt hp)
  show (x + 1) * (B + 1) ^ d + rank B d l < (y + 1) * (B + 1) ^ d + rank B d m
  omega
theorem rank_pos {B : Int} (hB : 0 ≤ B) {d : Nat} {y : Int} {m : List Int} (hm : m.length ≤ d) (h2 : Lw B (y :: m)) : 0 < rank B (d + 1) (y :: m) := by
  obtain ⟨c2, _⟩ := rank_bd hB d m hm h2.tail
  obtain ⟨y0, _⟩ := h2 y (List.mem_cons_self ..)
  have hp := pw_pos hB d
  have h1 : 0 < (y + 1) * (B + 1) ^ d := Int.mul_pos (by omega) hp
  show 0 < (y + 1) * (B + 1) ^ d + rank B d m
  omega
section
variable {prog : Program} {w : World} {A : Around} {E : Value → Shared → Prop} {s : Shared} {Q : Bool → Shared → Prop}
theorem rank_lex {B : Int} (hB : 0 ≤ B) {b fin : Bool} : ∀ (d : Nat) {xs ys : List Value} {ns ms : List Int} (i : Nat), IntsAre xs ns → IntsAre ys ms → ns.length ≤ d → ms.length ≤ d → Lw B ns → Lw B ms → fin = decide (ns.length < ms.length) →
    Q (decide (rank B d ns < rank B d ms)) s → PySem.W.KatLex prog w A b fin Q (xs.zip ys) i s
  | d, _, _, _, _, i, .nil, .nil, _, _, _, _, hf, h => by
    have e : decide (rank B d [] < rank B d []) = false := decide_eq_false (Int.lt_irrefl _)
    rw [e] at h
    have e2 : fin = false := hf
    subst e2
    exact PySem.W.kat_nil h
  | 0, _, _, _, _, i, .nil, .cons _ _ _, _, hm, _, _, _, _ => absurd hm (by simp)
  | d + 1, _, _, _, _, i, .nil, .cons y t hy, _, hm, _, h2, hf, h => by
    have z := rank_pos hB (by simpa using hm) h2
    have e : decide (rank B (d + 1) [] < rank B (d + 1) (y :: _)) = true := decide_eq_true z
    rw [e] at h
    have e2 : fin = true := by rw [hf]; exact decide_eq_true (Nat.succ_pos _)
    subst e2
    exact PySem.W.kat_nil h
  | 0, _, _, _, _, i, .cons _ _ _, _, hl, _, _, _, _, _ => absurd hl (by simp)
  | d + 1, _, _, _, _, i, .cons (ns := ns) x t hx, .nil, hl, _, h1, _, hf, h => by
    have z := rank_pos hB (by simpa using hl) h1
    have e : decide (rank B (d + 1) (x :: ns) < rank B (d + 1) []) = false := decide_eq_false (fun q => by
      have q' : rank B (d + 1) (x :: ns) < 0 := q
      omega)
    rw [e] at h
    have e2 : fin = false := by rw [hf]; exact decide_eq_false (Nat.not_lt_zero _)
    subst e2
    exact PySem.W.kat_nil h
  | d + 1, _, _, _, _, i, .cons (vs := xs) (ns := ns) p t hx, .cons (vs := ys) (ns := ms) q u hy, hl, hm, h1, h2, hf, h => by
    have hl' : ns.length ≤ d := by simpa using hl
    have hm' : ms.length ≤ d := by simpa using hm
    show PySem.W.KatLex prog w A b fin Q ((Value.int p t, Value.int q u) :: xs.zip ys) i s
    refine PySem.W.kat_cons (wpAny_eqBool_int ?_)
    by_cases e : p = q
    · subst e
      rw [beq_self_eq_true]
      refine PySem.W.kat_yes (rank_lex hB d (i + 1) hx hy hl' hm' h1.tail h2.tail (by rw [hf]; exact decide_eq_decide.mpr (by simp)) ?_)
      have c : decide (rank B (d + 1) (p :: ns) < rank B (d + 1) (p :: ms)) = decide (rank B d ns < rank B d ms) := decide_eq_decide.mpr (by
        show (p + 1) * (B + 1) ^ d + rank B d ns < (p + 1) * (B + 1) ^ d + rank B d ms ↔ _
        constructor <;> intro z <;> omega)
      rw [c] at h
      exact h
    · rw [show (p == q) = false from beq_eq_false_iff_ne.mpr e]
      refine PySem.W.kat_no (TS.oneLt_ints _ ?_)
      have c : decide (rank B (d + 1) (p :: ns) < rank B (d + 1) (q :: ms)) = decide (p < q) := decide_eq_decide.mpr ⟨fun z => by
        rcases Int.lt_trichotomy p q with y | y | y
        · exact y
        · exact absurd y e
        · have := rank_lt hB hm' hl' h2.tail h1.tail y
          omega, fun z => rank_lt hB hl' hm' h1.tail h2.tail z⟩
      rw [c] at h
      exact h
end
/-- what is sorted: tuples of one to d ints of [0, B) -/
def UpTo (h : Heap) (d : Nat) (B : Int) (vs : List Value) : Prop := ∀ v, v ∈ vs → ∃ ns, TS.TupInts h v ns ∧ 1 ≤ ns.length ∧ ns.length ≤ d ∧ Lw B ns
theorem UpTo.keeps {h h' : Heap} {d : Nat} {B : Int} {vs : List Value} (x : UpTo h d B vs) (k : ∀ b o, h.get? b = some o → o.cls = .type "tuple" → h'.get? b = some o) : UpTo h' d B vs := fun v hv =>
  let ⟨ns, t, r⟩ := x v hv; ⟨ns, t.keeps k, r⟩
theorem heads_of {h : Heap} {d : Nat} {B : Int} : ∀ vs : List Value, UpTo h d B vs → ∃ fs, PySem.W.KatTups h vs fs ∧ fs.length = vs.length ∧ ∀ f, f ∈ fs → ∃ n t, f = Value.int n t
  | [], _ => ⟨[], PySem.W.KatTups.nil, rfl, fun f hf => by simp at hf⟩
  | v :: vs, x => by
    obtain ⟨fs, k, hl, hi⟩ := heads_of vs fun u hu => x u (List.mem_cons_of_mem _ hu)
    obtain ⟨ns, ⟨a, xs, rfl, ⟨o, ho, hc, n, hdt⟩, i⟩, hn, _⟩ := x v (List.mem_cons_self ..)
    have il := i.length
    obtain ⟨y, hy⟩ : ∃ y, xs.toList[0]? = some y := ⟨_, List.getElem?_eq_getElem (by omega)⟩
    obtain ⟨m, t, hm⟩ := i.all y (List.mem_of_getElem? hy)
    refine ⟨y :: fs, PySem.W.KatTups.cons ho hc hdt (by simpa using hy) k, by simp [hl], fun f hf => ?_⟩
    rcases List.mem_cons.mp hf with e | hf
    · rw [e]; exact ⟨m, t, hm⟩
    · exact hi f hf
section
variable {prog : Program} {w : World} {A : Around} {E : Value → Shared → Prop} {s : Shared}
theorem kind_upto {d : Nat} {B : Int} (hB : 0 ≤ B) {vs : List Value} (h2 : 2 ≤ vs.length) (x : UpTo s.heap d B vs) (r : Value → Int) (hr : ∀ v, v ∈ vs → ∀ ns, TS.TupInts s.heap v ns → r v = rank B d ns) (Q : SortKind → Shared → Prop)
    (h : ∀ κ, TS.Cmp prog w A s κ (pairsOf vs) r → Q κ s) : wpAny (model prog w) A (keyKind' vs.toArray) Q E s := by
  obtain ⟨fs, k, hl, hi⟩ := heads_of vs x
  refine PySem.W.kat_kind (T := Value.type "int") k (by omega) (fun f hf => ?_) rfl (h _ ?_)
  · obtain ⟨n, t, rfl⟩ := hi f hf
    exact PySem.W.Looks.of_pure rfl
  · intro p q hp hq Q' E' hQ
    rw [pairsOf_toList] at hp hq
    obtain ⟨ns, tp, _, lp, bp⟩ := x _ (mem_zip_self hp).2
    obtain ⟨ms, tq, _, lq, bq⟩ := x _ (mem_zip_self hq).2
    have ep := hr _ (mem_zip_self hp).2 _ tp
    have eq2 := hr _ (mem_zip_self hq).2 _ tq
    rw [ep, eq2] at hQ
    obtain ⟨a, xs, e1, ⟨o, ho, hc, n, hdt⟩, i⟩ := tp
    obtain ⟨a', ys, e2, ⟨o', ho', hc', n', hdt'⟩, i'⟩ := tq
    rw [e1, e2]
    refine PySem.W.kat_lt ho hdt ho' hdt' (rank_lex hB d 0 i i' lp lq bp bq ?_ hQ)
    have l1 := i.length
    have l2 := i'.length
    rw [Array.length_toList] at l1 l2
    exact decide_eq_decide.mpr (by omega)
/-- list.sort of such -/
theorem sort_upto {a : Addr} {vs : List Value} {n d : Nat} {B : Int} (hB : 0 ≤ B) {P : PySem.Fin → Shared → Prop} (ho : s.heap.get? a = some (seqObj "list" vs.toArray n)) (h64 : vs.length < 64) (x : UpTo s.heap d B vs)
    (h : ∀ out : Array Value, out.toList.Perm vs → P (.done (.ret .none)) { s with heap := sortedHeap s.heap a vs out }) :
    wpAny (model prog w) A (Builtin.«list.sort» ⟨[.ref a], []⟩) P E s := by
  have keep : ∀ b o, s.heap.get? b = some o → o.cls = .type "tuple" → (TS.midHeap s.heap a vs).get? b = some o := fun b o e hc => by
    refine TS.midHeap_old (fun z => ?_) e
    rw [z, ho] at e
    rw [← Option.some.inj e] at hc
    have c' : Value.type "list" = Value.type "tuple" := hc
    injection c' with c''
    exact absurd c'' (by decide)
  refine SK.plain_sort (r := fun v => rank B d (TS.intsOf s.heap v)) ho h64 (fun h2 Q hQ => ?_) fun ps out h1 h2 h3 => h out (TS.out_rank (r := fun v => rank B d (TS.intsOf s.heap v)) h1 h2 h3).1
  refine kind_upto (s := { s with heap := TS.midHeap s.heap a vs }) hB h2 (x.keeps keep) _ (fun v hv ns t => ?_) Q hQ
  obtain ⟨ns0, t0, _⟩ := x v hv
  have e : ns = ns0 := t.ints.symm.trans (t0.keeps keep).ints
  rw [e]
  show rank B d (TS.intsOf s.heap v) = rank B d ns0
  rw [t0.ints]
end
/-- a list of refs, each of the rows -/
theorem rows_back {L : List (Addr × List Int)} : ∀ vs : List Value, (∀ v ∈ vs, ∃ q ∈ L, v = Value.ref q.1) → ∃ L1 : List (Addr × List Int), vs = L1.map (fun q => Value.ref q.1) ∧ ∀ q ∈ L1, q ∈ L
  | [], _ => ⟨[], rfl, fun q hq => absurd hq (by simp)⟩
  | v :: vs, hv => by
    obtain ⟨q, hq, e⟩ := hv v (List.mem_cons_self ..)
    obtain ⟨L1, e1, hs⟩ := rows_back vs fun u hu => hv u (List.mem_cons_of_mem _ hu)
    refine ⟨q :: L1, by rw [List.map_cons, e, e1], fun r hr => ?_⟩
    rcases List.mem_cons.mp hr with z | z
    · rw [z]; exact hq
    · exact hs r z
theorem rows_perm {L L1 : List (Addr × List Int)} (one : ∀ q ∈ L, ∀ r ∈ L, q.1 = r.1 → q = r) (nd : L.Nodup) (hs : ∀ q ∈ L1, q ∈ L) (pm : (L1.map (fun q => Value.ref q.1)).Perm (L.map fun q => Value.ref q.1)) : L1.Perm L := by
  have nref : (L.map fun q => Value.ref q.1).Nodup := by
    refine List.pairwise_map.mpr (List.Pairwise.imp_of_mem (fun {q r} hq hr hne e => ?_) nd)
    injection e with e
    exact hne (one q hq r hr e)
  have n1 : L1.Nodup := nodup_of_map (pm.nodup_iff.mpr nref)
  refine (List.perm_ext_iff_of_nodup n1 nd).mpr fun q => ⟨hs q, fun hq => ?_⟩
  obtain ⟨r, hr, e⟩ := List.mem_map.mp (pm.mem_iff.mpr (List.mem_map.mpr ⟨q, hq, rfl⟩))
  injection e with e
  rw [← one r (hs r hr) q hq e]
  exact hr
section
variable {P : Program} {w : World} {A : Around} {E : Value → Shared → Prop} {s : Shared}
theorem sorted_setU {a : Addr} {L : List (Addr × List Int)} {es : Array (Int × Value)} {ep : Nat} {t : SetTable} {Q : Value → Shared → Prop} (R : SetTR P w s.heap a L es ep t) (hh : A.handled = none)
    {d : Nat} {B : Int} (hB : 0 ≤ B) (hL : ∀ p ∈ L, 1 ≤ p.2.length ∧ p.2.length ≤ d ∧ Lw B p.2)
    (hQ : ∀ s' p (out : Array Value) (c : Nat) (L' : List (Addr × List Int)), (∀ b o, s.heap.get? b = some o → s'.heap.get? b = some o) → s'.gens = s.gens → s'.os = s.os → s.heap.objs.size ≤ p →
      s'.heap.get? p = some (seqObj "list" out c) → out.toList = L'.map (fun q => Value.ref q.1) → L'.Perm L → Q (.ref p) s') :
    wpAny (model P w) A (call (.builtin "sorted") [.ref a]) Q E s := by
  obtain ⟨o, ho, hex, hd⟩ := R.ob
  have hsz := R.size
  have hfew := R.few
  refine Calls.call_function_entry kind_sorted plain_sorted entry_sorted (args_sorted1 _) ?_
  unfold Builtin.«sorted»
  refine wpAny_bind (m := checkCount "sorted" 1 1 _) (wpAny_pure ?_)
  refine wpAny_bind (collect_set (A := A.in1) hh ⟨o, ho, hex.1, hd⟩ R.fits (by unfold scanBound; omega) R.tab.ris R.led fun s1 vs k1 hz g1 o1 pm => ?_)
  have hes : es.toList.map (·.2) = L.map fun q => Value.ref q.1 := by
    rw [R.rows]
    unfold rowsOf
    rw [List.map_map] <;> rfl
  rw [hes] at pm
  have one : ∀ q ∈ L, ∀ r ∈ L, q.1 = r.1 → q = r := fun q hq r hr e => by
    have a1 := R.tup q hq
    rw [e] at a1
    exact Prod.ext e (a1.inj (R.tup r hr))
  have hvl : vs.length < 64 := by rw [pm.length_eq, List.length_map]; exact hfew
  refine wpAny_bind (wpAny_newList ?_ (by rw [sizeLine_eq]; omega))
  have hoL : (s1.heap.push (seqObj "list" vs.toArray 0)).get? s1.heap.objs.size = some (seqObj "list" vs.toArray 0) := Heap.get?_push_size _ rfl
  have from_L : ∀ v ∈ vs, ∃ q ∈ L, v = Value.ref q.1 := fun v hv => by
    obtain ⟨q, hq, e⟩ := List.mem_map.mp (pm.mem_iff.mp hv)
    exact ⟨q, hq, e.symm⟩
  have x : UpTo (s1.heap.push (seqObj "list" vs.toArray 0)) d B vs := fun v hv => by
    obtain ⟨q, hq, e⟩ := from_L v hv
    rw [e]
    exact ⟨q.2, tupInts_of (P := P) (w := w) (isT_keep (R.tup q hq) fun b u e => Heap.get?_push_of_some _ (k1 b u e)), hL q hq⟩
  refine wpAny_bind (wpAny_holding (wpAny_call_entry slot_list_sort ⟨_, hoL, rfl⟩ entry_list_sort (sort_upto (s := { s1 with heap := s1.heap.push (seqObj "list" vs.toArray 0) }) hB hoL hvl x fun out a1 => ⟨_, rfl, ?_⟩) (args_list_sort _)))
  obtain ⟨c, hc⟩ := sortedHeap_at (vs := vs) (out := out) hoL
  obtain ⟨L', e', hs'⟩ := rows_back out.toList fun v hv => from_L v (a1.mem_iff.mp hv)
  have pL : L'.Perm L := rows_perm one (nodup_of_map R.nd) hs' (by rw [← e']; exact a1.trans pm)
  refine wpAny_pure ⟨_, rfl, hQ _ s1.heap.objs.size out c L' (fun b u e => ?_) g1 o1 hz hc e' pL⟩
  have q := k1 b u e
  have hlt := Heap.lt_size q
  show (sortedHeap (s1.heap.push (seqObj "list" vs.toArray 0)) s1.heap.objs.size vs out).get? b = some u
  rw [sortedHeap_old (Nat.ne_of_lt hlt) (by rw [size_push']; exact Nat.lt_succ_of_lt hlt)]
  exact Heap.get?_push_of_some _ q
end
section
variable {X : Cx}
/-- sorted(set), the tuples of one to d ints in [0, B): a new list of the set's members, each once -/
def rSortedU (K : PySem.W.Frag) (P : Program) (w : World) : List V → Hp → VK → Prop := fun vs H Q => ∃ (a : Addr) (L : List (Addr × List Int)) (d : Nat) (B : Int), vs = [V.ref a] ∧ H a = some (SetTO P w a L) ∧ (∀ p ∈ L, SqT K H p.1 (p.2.map V.int)) ∧ 0 ≤ B ∧
  (∀ p ∈ L, 1 ≤ p.2.length ∧ p.2.length ≤ d ∧ Lw B p.2) ∧
  ∀ (L' : List (Addr × List Int)) (p : Addr), L'.Perm L → (L'.map (·.2)).Nodup → H p = none → Q (.ref p) (upd H p (.lst (L'.map fun q => V.ref q.1)))
theorem cr_sortedU (hc : X.calm = true) : CallR X (.builtin "sorted") (rSortedU X.K X.prog X.w) := by
  intro pins s σ H vs us Q I r h
  obtain ⟨a, L, d, B, rfl, ha, hk, hB, hL, q⟩ := h
  have R0 : SetT0 X.prog X.w s.heap a L := (I.hok a _ ha).1
  obtain ⟨es, ep, t, R⟩ := R0.full fun p hp => I.isT (hk p hp)
  rw [Vals.ref1 r]
  refine sorted_setU R (I.ok.hd hc) hB hL fun s' p out c L' k g o hp hg hout pm => ?_
  have hfew : L'.length < 64 := by rw [pm.length_eq]; exact R.few
  have hlen : (L'.map fun q => V.ref q.1).length ≤ sizeLine := by rw [List.length_map, sizeLine_eq]; omega
  have hn : H p = none := I.hok.fresh hp
  have hv : Vals (L'.map fun q => V.ref q.1) out.toList := by rw [hout]; exact vals_of_refs L'
  have J : Inv X pins σ (upd H p (.lst (L'.map fun q => V.ref q.1))) { s with heap := s'.heap, gens := s'.gens, drawn := s'.drawn, toks := s'.toks } :=
    I.call (ch := []) (Un.laid k hp hn) (I.hok.laid k hp ⟨hlen, out.toList, c, hv, hg⟩) (by rw [g]; exact I.bare) (fun _ z => nomatch z)
  have e : s' = { s with heap := s'.heap, gens := s'.gens, drawn := s'.drawn, toks := s'.toks } := by
    cases s'
    cases s
    cases o
    rfl
  rw [e]
  exact ⟨.ref p, _, J, rfl, q L' p pm ((pm.map (·.2)).nodup_iff.mpr R.nd) hn⟩
end
end WR


set_option Elab.async false
set_option linter.all false
set_option maxRecDepth 100000
set_option maxHeartbeats 4000000
/-! The text by places, what the top holds, short words for values. -/
namespace WL
open PySem PySem.Spec PyProof.Rows L2 Evl WM
def top (i : Nat) : Stmt := PySem.Challenge.pw_walledin_k29_whole_days.main.body.getD i (.Pass ⟨0, 0, 0, 0⟩)
abbrev tArgs (i : Nat) : Arguments := L2.defArgs (top i)
abbrev tBody (i : Nat) : List Stmt := L2.defBody (top i)
abbrev tScope (i : Nat) : Scope := L2.defScope (top i)
/-- a def stands under its name -/
structure Df (K : PySem.W.Frag) (mg : Str → Option Value) (x : Str) (i : Nat) : Prop where
  ex : ∃ f fd, FunD K x x (tArgs i) (tBody i) (tScope i) [] [] f fd ∧ mg x = some (.ref f)
/-- a def may be called by its name, with a promise -/
structure Cal (P : Program) (w : World) (K : PySem.W.Frag) (mg : Str → Option Value) (base : Heap) (k : Nat) (x : Str) (sp : Sp) : Prop where
  ex : ∃ f fd ps, FnOk P w K mg base L2.CX0 k f fd ps sp ∧ mg x = some (.ref f) ∧ PySem.W.keepIn K (.ref f) = true ∧ Binds K fd ps []
section
variable {P : Program} {w : World} {K : PySem.W.Frag} {mg : Str → Option Value} {base : Heap}
theorem Df.cal {x : Str} {i k : Nat} {N ps : List Str} {sp : Sp} (D : Df K mg x i) (S : FnScope N ps (tScope i)) (len : ∀ vs H Q E, sp vs H Q E → vs.length = ps.length)
    (hb : ∀ (kV doc pm : Value) (an : Option Addr) (cdv ct : Value) (us : List Value), us.length = ps.length → bindArgs (PySem.W.fnOf x x (tArgs i) (tBody i) (tScope i) .none kV doc pm an cdv ct) ⟨us, []⟩ = pure (ps.zip us))
    (hbody : ∀ (f : Addr) (cdv : Value) (A : Around) (outer : List Env) (s : Shared) (H : Hp) (vs : List V) (Q : VK) (E : XK), Room k (A.deeper (envOfC x (tScope i) s.heap.objs.size f cdv)) → sp vs H Q E →
      ∃ t, PSs (cxOf L2.CX0 P w K mg base N x (tScope i) f cdv A outer s H E).nox (tBody i) t ∧ t { nx := fun _ H' => Q .non H', rt := Q } (start N vs) H) : Cal P w K mg base (k + 1) x sp := by
  obtain ⟨f, fd, F, hm⟩ := D.ex
  refine ⟨f, fd, ps, F.ok S len fun cdv A outer s H vs Q E hr h => ?_, hm, F.kp, F.bindsN hb⟩
  obtain ⟨t, h1, h2⟩ := hbody f cdv A outer s H vs Q E hr h
  exact ⟨t, h1.nox, h2⟩
theorem Cal.imp {x : Str} {k : Nat} {sp sp' : Sp} (c : Cal P w K mg base k x sp) (h : ∀ vs H Q E, sp' vs H Q E → sp vs H Q E) : Cal P w K mg base k x sp' := by
  obtain ⟨f, fd, ps, F, r⟩ := c.ex
  exact ⟨f, fd, ps, F.imp h, r⟩
end
section
variable {X : Cx} {k j : Nat} {x : Str} {sp : Sp} {p pos : Pos} {e : Expr} {es : List Expr} {t : TA}
theorem pcall (c : Cal X.prog X.w X.K X.mg X.base k x sp) (hr : Room j X.A) (hk : k ≤ j) (hg : Gl X x) (ha : PA X (e :: es) t)
    (hdb : (x == ("__debug__" : Str)) = false := by decide) (he : starEach (e :: es) X.env = (false, eval e X.env) :: starEach es X.env := by rfl) (hpl : (backTo pos (starEach es X.env)).any (·.1) = false := by rfl) :
    PE X (.Call (.Name x p) (e :: es) [] pos) (tCall sp [] L2.E0 t) := by
  obtain ⟨f, fd, ps, F, hm, kp, b⟩ := c.ex
  exact pe_call F (hr.mono hk) hg hm kp b .nil pass0 ha hdb he hpl
theorem pcon {v : V} {pos : Pos} (hg : Gl X x) (h : ∃ u, X.mg x = some u ∧ RelV v u) (hd : (x == ("__debug__" : Str)) = false := by decide) : PE X (.Name x pos) (tC v) := by
  obtain ⟨u, hm, r⟩ := h
  exact pe_glob hg hm r hd
end
/-! ### the rules by a written part that is named: within a comprehension's block no bound name may stay in a reading -/
section
variable {X : Cx} {K : PySem.W.Frag}
theorem k_in (hK : X.K = K) : OpR X (compareOp .In) (rIn K false) := hK ▸ op_in_seq
theorem k_nin (hK : X.K = K) : OpR X (compareOp .NotIn) (rIn K true) := hK ▸ op_notIn_seq
theorem k_ixL (hK : X.K = K) : IxR X (rIxL K) := hK ▸ ix_list
theorem k_ixT (hK : X.K = K) : IxR X (rIxT K) := hK ▸ ix_tup
theorem k_eqD (hK : X.K = K) (hu : X.A.units + 64 < cLine) : OpR X (compareOp .Eq) (rEqD K) := hK ▸ op_eqD hu
theorem k_neD (hK : X.K = K) (hu : X.A.units + 64 < cLine) : OpR X (compareOp .NotEq) (rNeD K) := hK ▸ op_neD hu
theorem k_cat (hK : X.K = K) : OpR X (binaryOp .Add) (rCatA K) := hK ▸ op_catA
theorem k_sl (hK : X.K = K) : SlR X (rSlA K) := hK ▸ sl_tupA
theorem k_len (hK : X.K = K) : CallR X (.builtin "len") (rLenS K) := hK ▸ call_len_seq
theorem k_any (hK : X.K = K) (hc : X.calm = true) : CallR X (.builtin "any") (rAny K) := hK ▸ cr_any hc
theorem k_all (hK : X.K = K) (hc : X.calm = true) : CallR X (.builtin "all") (rAll K) := hK ▸ cr_all hc
theorem k_max (hK : X.K = K) (hc : X.calm = true) : CallR X (.builtin "max") (rMax K) := hK ▸ cr_max hc
theorem k_min (hK : X.K = K) (hc : X.calm = true) : CallR X (.builtin "min") (rMin K) := hK ▸ cr_min hc
theorem k_isi (hK : X.K = K) : CallR X (.builtin "isinstance") (rIsi K) := hK ▸ call_isi
theorem k_isiT (hK : X.K = K) : CallR X (.builtin "isinstance") (rIsiT K) := hK ▸ call_isiT
def rTupOf (K : PySem.W.Frag) : List V → Hp → VK → Prop := fun xs H Q => ∃ p ys, xs = [.ref p] ∧ ((SqL K H p ys ∧ ∀ l, H l = none → Q (.ref l) (upd H l (.tup ys))) ∨ (SqT K H p ys ∧ Q (.ref p) H))
theorem k_tupOf (hK : X.K = K) : CallR X (.type "tuple") (rTupOf K) := hK ▸ call_tuple_of
theorem k_lstOf (hK : X.K = K) : CallR X (.type "list") (rListS K) := hK ▸ call_list_of
theorem k_sortL (hK : X.K = K) : CallR X (.builtin "sorted") (rSorted K) := hK ▸ cr_sorted
theorem k_sortT (hK : X.K = K) : CallR X (.builtin "sorted") (WR.rSortedTu K) := hK ▸ WR.cr_sortedTu
theorem k_pt {tg l : Expr} {tl : TE} (hK : X.K = K) (hl : PE X l tl) : PI X tg l (iTup K tl) := hK ▸ pi_tup hl
theorem k_pl {tg l : Expr} {tl : TE} (hK : X.K = K) (hl : PE X l tl) : PI X tg l (iList K tl) := hK ▸ pi_list hl
theorem k_gtup {es : List Expr} {k : Nat} {t : TGs} {n : Nat} {pos : Pos} (hK : X.K = K) (hc : X.calm = true) (h : PGs X es t)
    (hn : (assignEach es X.env).length = n := by rfl) (hst : (assignEach es X.env).findIdx? (·.1) = none := by rfl) : PG X (.Tuple es k pos) (gTup K n t) := hK ▸ pg_tup hc h hn hst
end
/-- what the top holds -/
structure Tx (K : PySem.W.Frag) (mg : Str → Option Value) : Prop where
  b_len : mg "len" = none
  b_sorted : mg "sorted" = none
  b_any : mg "any" = none
  b_all : mg "all" = none
  b_isinstance : mg "isinstance" = none
  b_int : mg "int" = none
  b_bool : mg "bool" = none
  b_tuple : mg "tuple" = none
  b_list : mg "list" = none
  b_str : mg "str" = none
  b_range : mg "range" = none
  b_enumerate : mg "enumerate" = none
  b_zip : mg "zip" = none
  b_max : mg "max" = none
  b_min : mg "min" = none
  b_set : mg "set" = none
  c_MOST_ROOMS : ∃ u, mg "MOST_ROOMS" = some u ∧ RelV (.int 9) u
  c_MOST_WALLS : ∃ u, mg "MOST_WALLS" = some u ∧ RelV (.int 12) u
  c_MOST_MASONS : ∃ u, mg "MOST_MASONS" = some u ∧ RelV (.int 12) u
/-! ### values -/
abbrev iN (n : Nat) : V := .int (n : Int)
abbrev LN (l : List Nat) : List V := l.map iN
/-- a wall at an address -/
def WAt (H : Hp) (a : Addr) (w : Wl) : Prop := H a = some (.tup [iN w.1, iN w.2.1, iN w.2.2])
/-- a yard at an address -/
structure Y (H : Hp) (y : Addr) (n : Nat) (ws : List Wl) : Prop where
  ex : ∃ (wa : Addr) (as : List Addr), H y = some (.tup [iN n, .ref wa]) ∧ H wa = some (.tup (as.map V.ref)) ∧ as.length = ws.length ∧ ∀ (i : Nat) (a : Addr) (w : Wl), as[i]? = some a → ws[i]? = some w → WAt H a w
theorem Y.ext {H H' : Hp} {y : Addr} {n : Nat} {ws : List Wl} (h : Y H y n ws) (e : Ex H H') : Y H' y n ws := by
  obtain ⟨wa, as, h1, h2, h3, h4⟩ := h.ex
  exact ⟨wa, as, e _ _ h1, e _ _ h2, h3, fun i a w ha hw => e _ _ (h4 i a w ha hw)⟩
/-- a yard of the law -/
structure Yd (n : Nat) (ws : List Wl) : Prop where
  good : Good n ws
  rooms : n ≤ 9
  few : ws.length ≤ 6
theorem Yd.ok {n : Nat} {ws : List Wl} (h : Yd n ws) {k : Nat} {w : Wl} (hw : ws[k]? = some w) : WOk n w := h.good.2 w (List.mem_of_getElem? hw)
/-! ### promises: what is handed back -/
def RetU (xs : List V) (H : Hp) (Q : VK) : Prop := ∀ p H2, Ex H H2 → H2 p = some (.tup xs) → Q (.ref p) H2
def EvP (te : TE) (σ : L2.St) (H : Hp) (xs : List V) : Prop := ∀ H1, Ex H H1 → ∀ Q : VK, (∀ p H2, Ex H1 H2 → H2 p = some (.tup xs) → Q (.ref p) H2) → te σ H1 Q
theorem EvP.mono {te : TE} {σ : L2.St} {H H' : Hp} {xs : List V} (e : Ex H H') (h : EvP te σ H xs) : EvP te σ H' xs := fun H1 a Q q => h H1 (e.trans a) Q q
theorem EvP.of {te : TE} {σ : L2.St} {H : Hp} {xs : List V} (h : EvU te σ H xs) : EvP te σ H xs := fun H1 e Q q => h H1 e Q fun p H2 _ e2 h2 => q p H2 e2 h2
theorem ep_var {i : Nat} {σ : L2.St} {H : Hp} {p : Addr} {xs : List V} (h : σ[i]? = some (some (.ref p))) (hp : H p = some (.tup xs)) : EvP (tVar i) σ H xs := fun H1 e _ q => ⟨_, h, q p H1 (Ex.refl H1) (e _ _ hp)⟩
section
variable {K : PySem.W.Frag} {σ : L2.St} {H : Hp} {ta tb te : TE} {x y z v : V}
/-- a call of a def: a value, a tuple -/
theorem ev_c1 {sp : Sp} {ta : TA} {vs : List V} (h : EvA ta σ H vs) (hs : ∀ H1, Ex H H1 → ∀ Q : VK, RetV z H1 Q → sp vs H1 Q L2.E0) : Ev (tCall sp [] L2.E0 ta) σ H z := fun H1 e Q q =>
  h H1 e _ fun H2 e2 => by
    show sp (vs ++ []) H2 Q L2.E0
    rw [List.append_nil]
    exact hs H2 (e.trans e2) Q fun H3 e3 => q H3 (e2.trans e3)
theorem ep_c1 {sp : Sp} {ta : TA} {vs xs : List V} (h : EvA ta σ H vs) (hs : ∀ H1, Ex H H1 → ∀ Q : VK, RetU xs H1 Q → sp vs H1 Q L2.E0) : EvP (tCall sp [] L2.E0 ta) σ H xs := fun H1 e Q q =>
  h H1 e _ fun H2 e2 => by
    show sp (vs ++ []) H2 Q L2.E0
    rw [List.append_nil]
    exact hs H2 (e.trans e2) Q fun p H3 e3 h3 => q p H3 (e2.trans e3) h3
/-- an item of a tuple, of a tuple just made -/
theorem ev_ixT {p : Addr} {xs : List V} {i : Int} (ha : Ev ta σ H (.ref p)) (hb : Ev tb σ H (.int i)) (hp : H p = some (.tup xs)) (hi : atI xs i = some v) : Ev (tOp (rIxT K) ta tb) σ H v := ev_op ha hb (rv_ixT (st_of hp) hi)
theorem ev_ixL {p : Addr} {xs : List V} {i : Int} (ha : Ev ta σ H (.ref p)) (hb : Ev tb σ H (.int i)) (hp : H p = some (.lst xs)) (hi : atI xs i = some v) : Ev (tOp (rIxL K) ta tb) σ H v := ev_op ha hb (rv_ixL (sq_of hp) hi)
/-- len -/
theorem ev_lenT {p : Addr} {xs : List V} (ha : Ev ta σ H (.ref p)) (hp : H p = some (.tup xs)) : Ev (tCB (rLenS K) (tCons ta tNil)) σ H (.int (xs.length : Int)) := fun H1 e Q q =>
  ha H1 e _ fun H2 e2 => ⟨p, xs, rfl, Or.inr (st_of (e2 _ _ (e _ _ hp))), q H2 e2⟩
theorem ev_lenL {p : Addr} {xs : List V} (ha : Ev ta σ H (.ref p)) (hp : H p = some (.lst xs)) : Ev (tCB (rLenS K) (tCons ta tNil)) σ H (.int (xs.length : Int)) := fun H1 e Q q =>
  ha H1 e _ fun H2 e2 => ⟨p, xs, rfl, Or.inl (sq_of (e2 _ _ (e _ _ hp))), q H2 e2⟩
end
end WL


set_option Elab.async false
set_option linter.all false
set_option maxRecDepth 100000
set_option maxHeartbeats 4000000
/-! What readings come to: lists and tuples of numbers, comprehensions, comparisons of data. -/
namespace WL
open PySem PySem.Spec PyProof.Rows L2 Evl WM
/-! ### kinds, chains -/
section
variable {K : PySem.W.Frag} {σ : L2.St} {H : Hp} {ta tb tc te : TE} {t : TT} {x y z v : V} {r : Bool}
theorem ev_isi {n m : String} (ha : Ev ta σ H x) (hx : ∀ H1, Ex H H1 → TyX K H1 x (.type m)) (hk : kitB m n = some r) : Ev (tCB (rIsi K) (tCons ta (tCons (tC (.ty n)) tNil))) σ H (.bl r) := fun H1 e Q q =>
  ha H1 e _ fun H2 e2 => ⟨x, .ty n, .type m, .type n, r, rfl, .ty n, hx H2 (e.trans e2), kit_ty hk, q H2 e2⟩
theorem ev_chain {r1 r2 : R2} {a b : Bool} (ha : Ev ta σ H x) (hb : Ev tb σ H y) (h1 : RV r1 x y H (.bl a)) (hc : a = true → Ev tc σ H z) (h2 : a = true → RV r2 y z H (.bl b)) (h3 : a = false → b = false) : Ev (tChain r1 r2 ta tb tc) σ H (.bl b) := fun H1 e Q q =>
  ha H1 e _ fun H2 e2 => hb H2 (e.trans e2) _ fun H3 e3 => h1 H3 ((e.trans e2).trans e3) _ fun H4 e4 => ⟨a, rfl, by
    cases a with
    | true =>
      rw [if_pos rfl]
      exact hc rfl H4 (((e.trans e2).trans e3).trans e4) _ fun H5 e5 => h2 rfl H5 ((((e.trans e2).trans e3).trans e4).trans e5) _ fun H6 e6 => q H6 ((((e2.trans e3).trans e4).trans e5).trans e6)
    | false =>
      rw [if_neg Bool.false_ne_true]
      have := h3 rfl
      subst this
      exact q H4 ((e2.trans e3).trans e4)⟩
theorem rv_le {i j : Int} : RV (rI0 fun i j => .bl (decide (i ≤ j))) (.int i) (.int j) H (.bl (decide (i ≤ j))) := rv_I0
theorem et_yes : EvT tYes σ H true := fun H1 _ _ q => q H1 (Ex.refl H1)
/-! ### numbers in lists and tuples -/
theorem eqV_iN (a b : Nat) : eqV (iN a) (iN b) = decide (a = b) := by
  show ((a : Int) == (b : Int)) = decide (a = b)
  by_cases h : a = b
  · subst h; simp
  · rw [decide_eq_false h]
    exact beq_eq_false_iff_ne.mpr fun e => h (by omega)
theorem inV_LN (n : Nat) (l : List Nat) : inV (iN n) (LN l) = decide (n ∈ l) := by
  unfold inV LN
  induction l with
  | nil => simp
  | cons a l ih =>
    rw [List.map_cons, List.any_cons, ih, eqV_iN]
    by_cases h : a = n
    · subst h; simp
    · rw [decide_eq_false h, Bool.false_or]
      exact decide_eq_decide.mpr (by simp [Ne.symm h])
theorem flat_LN (l : List Nat) : (LN l).all flatV = true := by
  rw [List.all_eq_true]
  intro v hv
  obtain ⟨n, _, rfl⟩ := List.mem_map.mp hv
  rfl
theorem ev_inLn {n : Nat} {l : List Nat} {p : Addr} (ha : Ev ta σ H (iN n)) (hb : Ev tb σ H (.ref p)) (hp : H p = some (.lst (LN l))) : Ev (tOp (rIn K false) ta tb) σ H (.bl (decide (n ∈ l))) :=
  ev_is (ev_op ha hb (rv_isL (sq_of hp) rfl (flat_LN l))) (by rw [inV_LN])
theorem ev_niLn {n : Nat} {l : List Nat} {p : Addr} (ha : Ev ta σ H (iN n)) (hb : Ev tb σ H (.ref p)) (hp : H p = some (.lst (LN l))) : Ev (tOp (rIn K true) ta tb) σ H (.bl (decide (n ∉ l))) :=
  ev_is (ev_op ha hb (rv_niL (sq_of hp) rfl (flat_LN l))) (by rw [inV_LN, decide_not])
theorem ev_inTn {n : Nat} {l : List Nat} (ha : Ev ta σ H (iN n)) (hb : EvP tb σ H (LN l)) : Ev (tOp (rIn K false) ta tb) σ H (.bl (decide (n ∈ l))) := fun H1 e Q q =>
  ha H1 e _ fun H2 e2 => hb H2 (e.trans e2) _ fun p H3 e3 h3 => ⟨p, LN l, rfl, Or.inr (st_of h3), rfl, flat_LN l, by
    show Q (.bl (inV (iN n) (LN l))) H3
    rw [inV_LN]
    exact q H3 (e2.trans e3)⟩
theorem ev_niTn {n : Nat} {l : List Nat} (ha : Ev ta σ H (iN n)) (hb : EvP tb σ H (LN l)) : Ev (tOp (rIn K true) ta tb) σ H (.bl (decide (n ∉ l))) := fun H1 e Q q =>
  ha H1 e _ fun H2 e2 => hb H2 (e.trans e2) _ fun p H3 e3 h3 => ⟨p, LN l, rfl, Or.inr (st_of h3), rfl, flat_LN l, by
    show Q (.bl (!inV (iN n) (LN l))) H3
    rw [inV_LN, ← decide_not]
    exact q H3 (e2.trans e3)⟩
theorem LN_get {l : List Nat} {i n : Nat} (h : l[i]? = some n) : (LN l)[i]? = some (iN n) := by
  rw [List.getElem?_map, h]; rfl
theorem get_LN {l : List Nat} {i : Nat} {x : V} (h : (LN l)[i]? = some x) : ∃ n, l[i]? = some n ∧ x = iN n := by
  rw [List.getElem?_map] at h
  obtain ⟨n, h1, h2⟩ := Option.map_eq_some_iff.mp h
  exact ⟨n, h1, h2.symm⟩
theorem LN_len (l : List Nat) : (LN l).length = l.length := List.length_map ..
theorem LN_snoc (l : List Nat) (x : Nat) : LN (l ++ [x]) = LN l ++ [iN x] := by simp
theorem LN_inj {a b : List Nat} (h : LN a = LN b) : a = b := by
  induction a generalizing b with
  | nil => cases b with
    | nil => rfl
    | cons y b => cases h
  | cons x a ih => cases b with
    | nil => cases h
    | cons y b =>
      injection h with h1 h2
      injection h1 with h1
      rw [ih h2, Int.ofNat.inj h1]
/-! ### comprehensions over a tuple -/
theorem el_lcP {xs : List V} {tl : TE} {j : Nat} {vs : List Nat} (f : Nat → Bool) (g : Nat → V) (h : EvP tl σ H xs) (hz : xs.length ≤ 40000) (hw : ∀ x, wipe ((wipe σ vs).set j (some x)) vs = wipe σ vs)
    (ht : ∀ (i : Nat) (x : V) H1, Ex H H1 → xs[i]? = some x → EvT t ((wipe σ vs).set j (some x)) H1 (f i)) (he : ∀ (i : Nat) (x : V) H1, Ex H H1 → xs[i]? = some x → f i = true → Ev te ((wipe σ vs).set j (some x)) H1 (g i)) :
    EvL (tLc (iTup K tl) (gName j) t te vs) σ H (given xs.length f g) := fun H0 e Q q => h H0 e _ fun a H1 e1 hx => ⟨a, rfl, ⟨xs, st_of hx⟩, fun Dl hD =>
  lc_tup (xs := xs) (Cw H1 f g Dl) ⟨hD, Ex.new hD, upd_same⟩ (fun i H' _ p => st_of (p.2.1 a _ hx)) (fun i x H' hi p => ⟨hw x, cw_turn p (by have := (List.getElem?_eq_some_iff.mp hi).1; omega) (ht i x H1 (e.trans e1) hi) (fun hf => he i x H1 (e.trans e1) hi hf)⟩)
    (fun H' p => q Dl H' (fresh_back e1 p.1) (e1.trans p.2.1) p.2.2)⟩
theorem given_list {α : Type} (p : α → Bool) (g : α → V) (d : α) : ∀ l : List α, given l.length (fun i => p (l.getD i d)) (fun i => g (l.getD i d)) = (l.filter p).map g := by
  intro l
  unfold given
  have key : ∀ (l : List α), ((List.range l.length).filter fun i => p (l.getD i d)).map (fun i => l.getD i d) = l.filter p := by
    intro l
    induction l with
    | nil => rfl
    | cons a l ih =>
      rw [List.length_cons, List.range_succ_eq_map, List.filter_cons, List.filter_map, List.filter_cons]
      have e : ((List.range l.length).filter ((fun i => p ((a :: l).getD i d)) ∘ Nat.succ)) = (List.range l.length).filter fun i => p (l.getD i d) := rfl
      rw [e]
      show List.map (fun i => (a :: l).getD i d) (if p a = true then _ else _) = if p a = true then a :: l.filter p else l.filter p
      by_cases h : p a = true
      · rw [if_pos h, if_pos h, List.map_cons, List.map_map, ← ih]
        rfl
      · rw [if_neg h, if_neg h, List.map_map, ← ih]
        rfl
  rw [← key l, List.map_map]
  rfl
theorem el_nat {l : List Nat} {tl : TE} {j : Nat} {vs : List Nat} (p : Nat → Bool) (g : Nat → V) (h : EvP tl σ H (LN l)) (hz : l.length ≤ 40000) (hw : ∀ x, wipe ((wipe σ vs).set j (some x)) vs = wipe σ vs)
    (ht : ∀ x ∈ l, ∀ H1, Ex H H1 → EvT t ((wipe σ vs).set j (some (iN x))) H1 (p x)) (he : ∀ x ∈ l, p x = true → ∀ H1, Ex H H1 → Ev te ((wipe σ vs).set j (some (iN x))) H1 (g x)) :
    EvL (tLc (iTup K tl) (gName j) t te vs) σ H ((l.filter p).map g) := by
  have key := el_lcP (K := K) (t := t) (te := te) (fun i => p (l.getD i 0)) (fun i => g (l.getD i 0)) h (by rw [LN_len]; exact hz) hw (fun i x H1 e hx => by
    obtain ⟨n, hn, rfl⟩ := get_LN hx
    rw [show l.getD i 0 = n by rw [List.getD_eq_getElem?_getD, hn]; rfl]
    exact ht n (List.mem_of_getElem? hn) H1 e) (fun i x H1 e hx hf => by
    obtain ⟨n, hn, rfl⟩ := get_LN hx
    have en : l.getD i 0 = n := by rw [List.getD_eq_getElem?_getD, hn]; rfl
    rw [en] at hf ⊢
    exact he n (List.mem_of_getElem? hn) hf H1 e)
  rw [LN_len, given_list] at key
  exact key
theorem el_natL {l : List Nat} {tl : TE} {j : Nat} {vs : List Nat} {a : Addr} (p : Nat → Bool) (g : Nat → V) (h : Ev tl σ H (.ref a)) (hx : H a = some (.lst (LN l))) (hz : l.length ≤ 40000) (hw : ∀ x, wipe ((wipe σ vs).set j (some x)) vs = wipe σ vs)
    (ht : ∀ x ∈ l, ∀ H1, Ex H H1 → EvT t ((wipe σ vs).set j (some (iN x))) H1 (p x)) (he : ∀ x ∈ l, p x = true → ∀ H1, Ex H H1 → Ev te ((wipe σ vs).set j (some (iN x))) H1 (g x)) :
    EvL (tLc (iList K tl) (gName j) t te vs) σ H ((l.filter p).map g) := by
  have key := el_lcL (K := K) (t := t) (te := te) (fun i => p (l.getD i 0)) (fun i => g (l.getD i 0)) h (sq_of hx) (by rw [LN_len]; exact hz) hw (fun i x H1 e hx => by
    obtain ⟨n, hn, rfl⟩ := get_LN hx
    rw [show l.getD i 0 = n by rw [List.getD_eq_getElem?_getD, hn]; rfl]
    exact ht n (List.mem_of_getElem? hn) H1 e) (fun i x H1 e hx hf => by
    obtain ⟨n, hn, rfl⟩ := get_LN hx
    have en : l.getD i 0 = n := by rw [List.getD_eq_getElem?_getD, hn]; rfl
    rw [en] at hf ⊢
    exact he n (List.mem_of_getElem? hn) hf H1 e)
  rw [LN_len, given_list] at key
  exact key
/-! ### any, all, tuple(list) -/
theorem ev_any {bs : List Bool} (h : EvL te σ H (bs.map V.bl)) : Ev (tCB (rAny K) (tCons te tNil)) σ H (.bl (bs.any id)) := fun H1 e Q q =>
  h H1 e _ fun p H2 _ e2 h2 => ⟨p, bs, rfl, sq_of h2, q H2 e2⟩
theorem ev_all {bs : List Bool} (h : EvL te σ H (bs.map V.bl)) : Ev (tCB (rAll K) (tCons te tNil)) σ H (.bl (bs.all id)) := fun H1 e Q q =>
  h H1 e _ fun p H2 _ e2 h2 => ⟨p, bs, rfl, sq_of h2, q H2 e2⟩
theorem eu_tupL {xs : List V} (h : EvL te σ H xs) : EvU (tCB (rTupOf K) (tCons te tNil)) σ H xs := fun H1 e Q q =>
  h H1 e _ fun p H2 _ e2 h2 => ⟨p, xs, rfl, Or.inl ⟨sq_of h2, fun l hl => q l _ (fresh_back e2 hl) (e2.trans (Ex.new hl)) upd_same⟩⟩
theorem eu_tupV {xs : List V} {p : Addr} (h : Ev te σ H (.ref p)) (hp : H p = some (.lst xs)) : EvU (tCB (rTupOf K) (tCons te tNil)) σ H xs := fun H1 e Q q =>
  h H1 e _ fun H2 e2 => ⟨p, xs, rfl, Or.inl ⟨sq_of (e2 _ _ (e _ _ hp)), fun l hl => q l _ (fresh_back e2 hl) (e2.trans (Ex.new hl)) upd_same⟩⟩
end
/-! ### data: numbers, lots -/
def dN (l : List Nat) : List PyData := l.map fun (n : Nat) => PyData.int (n : Int)
theorem dN_lay : ∀ l, PyData.canLayAll0 (dN l) = true
  | [] => by unfold dN; simp only [List.map_nil, PyData.canLayAll0]
  | a :: l => by
    have := dN_lay l
    unfold dN at this ⊢
    simp only [List.map_cons, PyData.canLayAll0, PyData.canLay0, this, Bool.and_self]
theorem dN_deep : ∀ l, PyData.depthAll (dN l) = 0
  | [] => by unfold dN; simp only [List.map_nil, PyData.depthAll]
  | a :: l => by
    have := dN_deep l
    unfold dN at this ⊢
    simp only [List.map_cons, PyData.depthAll, PyData.depth, this, Nat.max_self]
theorem shaped_dL (l : List Nat) : SeqAt.shaped (.list (dN l)) = true := by
  unfold SeqAt.shaped
  simp only [PyData.canLay0, dN_lay, PyData.depth, dN_deep, Bool.true_and]
  decide
theorem shaped_dT (l : List Nat) : SeqAt.shaped (.tuple (dN l)) = true := by
  unfold SeqAt.shaped
  simp only [PyData.canLay0, dN_lay, PyData.depth, dN_deep, Bool.true_and]
  decide
def dNN (ls : List (List Nat)) : List PyData := ls.map fun l => PyData.tuple (dN l)
theorem dNN_lay : ∀ l, PyData.canLayAll0 (dNN l) = true
  | [] => by unfold dNN; simp only [List.map_nil, PyData.canLayAll0]
  | a :: l => by
    have := dNN_lay l
    unfold dNN at this ⊢
    simp only [List.map_cons, PyData.canLayAll0, PyData.canLay0, dN_lay, this, Bool.and_self]
theorem dNN_deep : ∀ l, PyData.depthAll (dNN l) ≤ 1
  | [] => by unfold dNN; simp only [List.map_nil, PyData.depthAll]; omega
  | a :: l => by
    have := dNN_deep l
    unfold dNN at this ⊢
    simp only [List.map_cons, PyData.depthAll, PyData.depth, dN_deep]
    omega
theorem shaped_dLL (l : List (List Nat)) : SeqAt.shaped (.list (dNN l)) = true := by
  unfold SeqAt.shaped
  have := dNN_deep l
  simp only [PyData.canLay0, dNN_lay, PyData.depth, Bool.true_and, decide_eq_true_eq]
  exact decide_eq_true (by omega)
theorem shaped_dTT (l : List (List Nat)) : SeqAt.shaped (.tuple (dNN l)) = true := by
  unfold SeqAt.shaped
  have := dNN_deep l
  simp only [PyData.canLay0, dNN_lay, PyData.depth, Bool.true_and, decide_eq_true_eq]
  exact decide_eq_true (by omega)
theorem eqv_dN : ∀ a b : List Nat, PyData.eqvAll (dN a) (dN b) = decide (a = b)
  | [], [] => by unfold dN; simp [PyData.eqvAll]
  | [], _ :: _ => by unfold dN; simp [PyData.eqvAll]
  | _ :: _, [] => by unfold dN; simp [PyData.eqvAll]
  | x :: a, y :: b => by
    have := eqv_dN a b
    unfold dN at this ⊢
    simp only [List.map_cons, PyData.eqvAll, PyData.eqv, this]
    by_cases h : x = y
    · subst h; simp
    · have : ((x : Int) == (y : Int)) = false := beq_eq_false_iff_ne.mpr fun e => h (by omega)
      rw [this, Bool.false_and]
      exact (decide_eq_false (fun e => h (List.cons.inj e).1)).symm
theorem eqv_nil (ds : List PyData) : PyData.eqvAll ds [] = ds.isEmpty := by
  cases ds with
  | nil => simp only [PyData.eqvAll, List.isEmpty]
  | cons d ds => simp only [PyData.eqvAll, List.isEmpty]
section
variable {K : PySem.W.Frag} {H : Hp}
theorem dp_all : ∀ l : List Nat, DpAll K H (LN l) (dN l)
  | [] => .nil
  | n :: l => .cons (.int (n : Int)) (dp_all l)
theorem dp_L {p : Addr} {l : List Nat} (h : H p = some (.lst (LN l))) : Dp K H (.ref p) (.list (dN l)) := .lst (sq_of h) (dp_all l)
theorem dp_T {p : Addr} {l : List Nat} (h : H p = some (.tup (LN l))) : Dp K H (.ref p) (.tuple (dN l)) := .tup (st_of h) (dp_all l)
end
/-! ### refs of lots -/
/-- the values are refs of tuples of these numbers -/
abbrev Lots (H : Hp) : List V → List (List Nat) → Prop := Paired fun v l => ∃ a, v = V.ref a ∧ H a = some (.tup (LN l))
theorem Lots.ext {H H' : Hp} (e : Ex H H') {vs : List V} {ls : List (List Nat)} (h : Lots H vs ls) : Lots H' vs ls := L2.Paired.mapP h fun _ _ ⟨a, h1, h2⟩ => ⟨a, h1, e _ _ h2⟩
theorem Lots.snoc {H : Hp} {vs : List V} {ls : List (List Nat)} {a : Addr} {l : List Nat} (h : Lots H vs ls) (ha : H a = some (.tup (LN l))) : Lots H (vs ++ [.ref a]) (ls ++ [l]) := by
  induction h with
  | nil => exact .cons ⟨a, rfl, ha⟩ .nil
  | cons h _ ih => exact .cons h ih
theorem Lots.app {H : Hp} {vs us : List V} {ls ms : List (List Nat)} (h : Lots H vs ls) (k : Lots H us ms) : Lots H (vs ++ us) (ls ++ ms) := by
  induction h with
  | nil => exact k
  | cons h _ ih => exact .cons h ih
theorem Lots.get {H : Hp} {vs : List V} {ls : List (List Nat)} (h : Lots H vs ls) : ∀ {i : Nat} {v : V}, vs[i]? = some v → ∃ a l, v = .ref a ∧ ls[i]? = some l ∧ H a = some (.tup (LN l)) := by
  induction h with
  | nil => intro i v e; simp at e
  | @cons x l xs ls hx _ ih =>
    intro i v e
    cases i with
    | zero =>
      obtain ⟨a, h1, h2⟩ := hx
      have e : x = v := by simpa using e
      subst e
      exact ⟨a, l, h1, rfl, h2⟩
    | succ i => exact ih (by simpa using e)
theorem Lots.len {H : Hp} {vs : List V} {ls : List (List Nat)} (h : Lots H vs ls) : vs.length = ls.length := Paired.length h
theorem Lots.data {K : PySem.W.Frag} {H : Hp} {vs : List V} {ls : List (List Nat)} (h : Lots H vs ls) : DpAll K H vs (dNN ls) := by
  induction h with
  | nil => exact .nil
  | cons h _ ih =>
    obtain ⟨a, rfl, ha⟩ := h
    exact .cons (dp_T ha) ih
end WL
namespace WL
open PySem PySem.Spec PyProof.Rows L2 Evl WM
section
variable {K : PySem.W.Frag} {σ : L2.St} {H : Hp} {ta tb tc te : TE} {t : TT} {x y z v : V} {r : Bool} {D : Ends} {tu tw tz : TS} {g : TG}
theorem ev_chain2 {r1 r2 : R2} {a b : Bool} (ha : Ev ta σ H x) (hb : Ev tb σ H y) (h1 : RV r1 x y H (.bl a)) (hc : Ev tc σ H z) (h2 : RV r2 y z H (.bl b)) : Ev (tChain r1 r2 ta tb tc) σ H (.bl (a && b)) := by
  cases a with
  | true => exact ev_chain ha hb h1 (fun _ => hc) (fun _ => h2) (fun h => absurd h (by decide))
  | false => exact ev_chain (z := z) (b := false) ha hb h1 (fun h => absurd h (by decide)) (fun h => absurd h (by decide)) (fun _ => rfl)
theorem ep_ev {p : Addr} {xs : List V} (h : Ev te σ H (.ref p)) (hp : H p = some (.tup xs)) : EvP te σ H xs := fun H1 e Q q => h H1 e _ fun H2 e2 => q p H2 e2 (e2 _ _ (e _ _ hp))
/-! ### statements -/
theorem q_unp2 {i j : Nat} (h : EvP te σ H [x, y]) (k : ∀ H1, Ex H H1 → tz D ((σ.set i (some x)).set j (some y)) H1) : tSeq (tAsg te (gTup K 2 (gCons (gName i) (gCons (gName j) gNil)))) tz D σ H :=
  h H (Ex.refl H) _ fun p H1 e hp => ⟨p, [x, y], rfl, st_of hp, rfl, x, [y], rfl, y, [], rfl, rfl, k H1 e⟩
theorem q_unp3 {i j l : Nat} (h : EvP te σ H [x, y, z]) (k : ∀ H1, Ex H H1 → tz D (((σ.set i (some x)).set j (some y)).set l (some z)) H1) : tSeq (tAsg te (gTup K 3 (gCons (gName i) (gCons (gName j) (gCons (gName l) gNil))))) tz D σ H :=
  h H (Ex.refl H) _ fun p H1 e hp => ⟨p, [x, y, z], rfl, st_of hp, rfl, x, [y, z], rfl, y, [z], rfl, z, [], rfl, rfl, k H1 e⟩
theorem s_retP {xs : List V} (h : EvP te σ H xs) (k : ∀ p H1, Ex H H1 → H1 p = some (.tup xs) → D.rt (.ref p) H1) : tRet te D σ H := h H (Ex.refl H) _ fun p H1 e hp => k p H1 e hp
/-- a loop over a tuple just made -/
theorem s_forP {xs : List V} {tl : TE} (h : EvP tl σ H xs) (Pv : Addr → Nat → L2.St → Hp → Prop) (h0 : ∀ p H1, Ex H H1 → H1 p = some (.tup xs) → Pv p 0 σ H1) (hl : ∀ p i σ' H', i ≤ xs.length → Pv p i σ' H' → H' p = some (.tup xs))
    (hs : ∀ p i x σ' H', xs[i]? = some x → Pv p i σ' H' → g x σ' H' fun σ2 H2 => tu { D with nx := Pv p (i + 1), ct := Pv p (i + 1), bk := D.nx } σ2 H2) (hd : ∀ p σ' H', Pv p xs.length σ' H' → D.nx σ' H') : tFor (iTup K tl) g tu D σ H :=
  h H (Ex.refl H) _ fun p H1 e hp => ⟨p, rfl, ⟨xs, st_of hp⟩, for_tup (Pv p) (h0 p H1 e hp) (fun i σ' H' hi hv => st_of (hl p i σ' H' hi hv)) (hs p) (hd p)⟩
theorem q_forP {xs : List V} {tl : TE} (h : EvP tl σ H xs) (Pv : Addr → Nat → L2.St → Hp → Prop) (h0 : ∀ p H1, Ex H H1 → H1 p = some (.tup xs) → Pv p 0 σ H1) (hl : ∀ p i σ' H', i ≤ xs.length → Pv p i σ' H' → H' p = some (.tup xs))
    (hs : ∀ p i x σ' H', xs[i]? = some x → Pv p i σ' H' → g x σ' H' fun σ2 H2 => tu { D with nx := Pv p (i + 1), ct := Pv p (i + 1), bk := tz D } σ2 H2) (hd : ∀ p σ' H', Pv p xs.length σ' H' → tz D σ' H') : tSeq (tFor (iTup K tl) g tu) tz D σ H :=
  s_forP (D := { D with nx := tz D }) h Pv h0 hl hs hd
theorem s_if0 (h : EvT t σ H false) (k : ∀ H1, Ex H H1 → tw D σ H1) : tIfS t tu tw D σ H := s_if h (fun e => absurd e (by decide)) fun _ => k
theorem q_if0 (h : EvT t σ H false) (k : ∀ H1, Ex H H1 → tz D σ H1) : tSeq (tIfS t tu tNext) tz D σ H := q_when h (fun e => absurd e (by decide)) fun _ => k
end
/-! ### a yard -/
section
variable {K : PySem.W.Frag} {σ : L2.St} {H : Hp} {ta tb tc te : TE} {n : Nat} {ws : List Wl} {y : Addr}
/-- yard[0], yard[1], len(yard[1]), yard[1][k] -/
theorem ev_y0 {j : Int} (h : Y H y n ws) (ha : Ev ta σ H (.ref y)) (hb : Ev tb σ H (.int 0)) : Ev (tOp (rIxT K) ta tb) σ H (iN n) := by
  obtain ⟨wa, as, h1, _⟩ := h.ex
  exact ev_ixT ha hb h1 (atI_nat (j := 0) rfl)
theorem ev_y1 (h : Y H y n ws) (ha : Ev ta σ H (.ref y)) (hb : Ev tb σ H (.int 1)) : ∃ (wa : Addr) (as : List Addr), H wa = some (.tup (as.map V.ref)) ∧ as.length = ws.length ∧ Ev (tOp (rIxT K) ta tb) σ H (.ref wa) := by
  obtain ⟨wa, as, h1, h2, h3, _⟩ := h.ex
  exact ⟨wa, as, h2, h3, ev_ixT ha hb h1 (atI_nat (j := 1) rfl)⟩
theorem ev_ylen (h : Y H y n ws) (ha : Ev ta σ H (.ref y)) (hb : Ev tb σ H (.int 1)) : Ev (tCB (rLenS K) (tCons (tOp (rIxT K) ta tb) tNil)) σ H (iN ws.length) := by
  obtain ⟨wa, as, h2, h3, q⟩ := ev_y1 (K := K) h ha hb
  exact ev_is (ev_lenT q h2) (by rw [List.length_map, h3])
theorem ev_wall {k : Nat} {w : Wl} (h : Y H y n ws) (hw : ws[k]? = some w) (ha : Ev ta σ H (.ref y)) (hb : Ev tb σ H (.int 1)) (hc : Ev tc σ H (iN k)) : ∃ a, WAt H a w ∧ Ev (tOp (rIxT K) (tOp (rIxT K) ta tb) tc) σ H (.ref a) := by
  obtain ⟨wa, as, h1, h2, h3, h4⟩ := h.ex
  have hk : k < as.length := by rw [h3]; exact (List.getElem?_eq_some_iff.mp hw).1
  refine ⟨as[k], h4 k _ w (List.getElem?_eq_getElem hk) hw, ev_ixT (ev_ixT ha hb h1 (atI_nat (j := 1) rfl)) hc h2 (atI_nat ?_)⟩
  rw [List.getElem?_map, List.getElem?_eq_getElem hk]
  rfl
theorem ep_wall {k : Nat} {w : Wl} (h : Y H y n ws) (hw : ws[k]? = some w) (ha : Ev ta σ H (.ref y)) (hb : Ev tb σ H (.int 1)) (hc : Ev tc σ H (iN k)) : EvP (tOp (rIxT K) (tOp (rIxT K) ta tb) tc) σ H [iN w.1, iN w.2.1, iN w.2.2] := by
  obtain ⟨a, h1, h2⟩ := ev_wall (K := K) h hw ha hb hc
  exact ep_ev h2 h1
/-- tuple(range(n)), list(range(n)) -/
theorem rgV_LN (m : Nat) : rgV 0 (m : Int) = LN (List.range m) := by
  unfold rgV LN
  rw [show ((m : Int) - 0).toNat = m by omega]
  refine List.map_congr_left fun i _ => ?_
  show V.int (0 + (i : Int)) = iN i
  rw [Int.zero_add]
theorem ep_rg {m : Nat} (h : Ev ta σ H (iN m)) (hm : m ≤ 1000) : EvP (tTupRg (tRg1 ta)) σ H (LN (List.range m)) := fun H1 e Q q =>
  h H1 e _ fun H2 e2 => ⟨(m : Int), rfl, RgOk.of_le (by omega) (by omega) (by omega) (by omega), fun p hp => q p _ (e2.trans (Ex.new hp)) (by rw [← rgV_LN]; exact upd_same)⟩
theorem el_rg {m : Nat} (h : Ev ta σ H (iN m)) (hm : m ≤ 1000) : EvL (tLstRg (tRg1 ta)) σ H (LN (List.range m)) := fun H1 e Q q =>
  h H1 e _ fun H2 e2 => ⟨(m : Int), rfl, RgOk.of_le (by omega) (by omega) (by omega) (by omega), fun p hp => q p _ (fresh_back e2 hp) (e2.trans (Ex.new hp)) (by rw [← rgV_LN]; exact upd_same)⟩
end
section
variable {K : PySem.W.Frag} {σ : L2.St} {H : Hp} {D : Ends} {tu tz : TS} {g : TG}
/-- a loop over enumerate of a tuple -/
theorem s_forE {a : Addr} {xs : List V} {ta : TA} (h : EvA ta σ H [.ref a]) (hx : H a = some (.tup xs)) (Pv : Nat → L2.St → Hp → Prop) (h0 : ∀ H1, Ex H H1 → Pv 0 σ H1) (hl : ∀ i σ' H', Pv i σ' H' → H' a = some (.tup xs))
    (hs : ∀ (i : Nat) (x : V) (T : Addr) σ' H', xs[i]? = some x → Pv i σ' H' → H' T = none → g (.ref T) σ' (upd H' T (.tup [iN i, x])) fun σ2 H2 => tu { D with nx := Pv (i + 1), ct := Pv (i + 1), bk := D.nx } σ2 H2) (hd : ∀ σ' H', Pv xs.length σ' H' → D.nx σ' H') :
    tFor (WR.iEnumT K ta) g tu D σ H := h H (Ex.refl H) _ fun H1 e1 => ⟨a, xs, rfl, st_of (e1 _ _ hx), by
  refine ⟨fun i m σ' H' => m = xs.length - i ∧ i ≤ xs.length ∧ Pv i σ' H', ⟨xs.length, rfl, Nat.zero_le _, h0 H1 e1⟩, ?_⟩
  rintro i m σ' H' ⟨rfl, hi, p⟩
  have q : SqT K H' a xs := st_of (hl i σ' H' p)
  by_cases hlt : i < xs.length
  · have hx' : xs[i]? = some xs[i] := List.getElem?_eq_getElem hlt
    refine .inr ⟨⟨xs, _, q, hx'⟩, Pv (i + 1), fun σ2 H2 p' => ⟨xs.length - (i + 1), by omega, rfl, hlt, p'⟩, fun v H2 y => ?_⟩
    obtain ⟨T, x', rfl, hT, rfl, f1⟩ := y
    exact hs i x' T σ' H' (f1 xs q) p hT
  · have e : i = xs.length := by omega
    subst e
    exact .inl ⟨⟨xs, q, rfl⟩, hd σ' H' p⟩⟩
end
/-! ### sorted -/
def sortN (l : List Nat) : List Nat := l.mergeSort fun a b => decide (a ≤ b)
theorem sortN_perm (l : List Nat) : (sortN l).Perm l := List.mergeSort_perm _ _
theorem sortN_up (l : List Nat) : (sortN l).Pairwise (· ≤ ·) := by
  have := List.pairwise_mergeSort (le := fun a b : Nat => decide (a ≤ b)) (fun a b c h1 h2 => by simp at h1 h2 ⊢; omega) (fun a b => by simp; omega) l
  exact this.imp fun h => by simpa using h
theorem sortN_adds (L A : List Nat) : Adds L A (sortN (L ++ A)) := ⟨sortN_perm _, sortN_up _⟩
theorem LN_eq (l : List Nat) : (l.map fun n : Nat => (n : Int)).map V.int = LN l := by
  rw [List.map_map]
  rfl
theorem sorted_eq {l : List Nat} {ns : List Int} (h1 : ns.Perm (l.map fun n : Nat => (n : Int))) (h2 : ns.Pairwise (· ≤ ·)) : ns.map V.int = LN (sortN l) := by
  have e : ns = (sortN l).map fun n : Nat => (n : Int) := by
    refine (h1.trans ((sortN_perm l).map fun n : Nat => (n : Int)).symm).eq_of_pairwise (fun x y _ _ a b => Int.le_antisymm a b) h2 ?_
    exact List.pairwise_map.mpr ((sortN_up l).imp fun h => by omega)
  rw [e, LN_eq]
section
variable {K : PySem.W.Frag} {σ : L2.St} {H : Hp} {te : TE}
theorem el_sortL {l : List Nat} {p : Addr} (h : Ev te σ H (.ref p)) (hp : H p = some (.lst (LN l))) (h64 : l.length < 64) : EvL (tCB (rSorted K) (tCons te tNil)) σ H (LN (sortN l)) := fun H1 e Q q =>
  h H1 e _ fun H2 e2 => ⟨p, l.map fun n : Nat => (n : Int), rfl, by rw [LN_eq]; exact sq_of (e2 _ _ (e _ _ hp)), by rw [List.length_map]; exact h64, fun ns r h1 h2 hr => by
    rw [sorted_eq h1 h2]
    exact q r _ (fresh_back e2 hr) (e2.trans (Ex.new hr)) upd_same⟩
theorem el_sortT {l : List Nat} (h : EvP te σ H (LN l)) (h64 : l.length < 64) : EvL (tCB (WR.rSortedTu K) (tCons te tNil)) σ H (LN (sortN l)) := fun H1 e Q q =>
  h H1 e _ fun p H2 e2 hp => ⟨p, l.map fun n : Nat => (n : Int), rfl, by rw [LN_eq]; exact st_of hp, by rw [List.length_map]; exact h64, fun ns r h1 h2 hr => by
    rw [sorted_eq h1 h2]
    exact q r _ (fresh_back e2 hr) (e2.trans (Ex.new hr)) upd_same⟩
/-- a + b, tuples -/
theorem ep_cat {ta tb : TE} {a b : List Nat} (ha : EvP ta σ H (LN a)) (hb : EvP tb σ H (LN b)) (hz : a.length + b.length ≤ 1000) : EvP (tOp (rCatA K) ta tb) σ H (LN (a ++ b)) := fun H1 e Q q =>
  ha H1 e _ fun p H2 e2 hp => hb H2 (e.trans e2) _ fun r H3 e3 hr => ⟨p, r, LN a, LN b, rfl, rfl, st_of (e3 _ _ hp), st_of hr, by rw [LN_len, LN_len]; exact Nat.le_trans hz (by decide), fun h => by
    have h : a = [] := LN_inj (b := []) h
    subst h
    exact q r H3 (e2.trans e3) hr, fun _ h => by
    have h : b = [] := LN_inj (b := []) h
    subst h
    rw [List.append_nil] at q
    exact q p H3 (e2.trans e3) (e3 _ _ hp), fun _ _ z hz => q z _ ((e2.trans e3).trans (Ex.new hz)) (by rw [upd_same, ← List.map_append])⟩
end
end WL


set_option Elab.async false
set_option linter.all false
set_option maxRecDepth 100000
set_option maxHeartbeats 4000000
/-! The small defs: kinds, numbers, yards, sides. -/
namespace WL
open PySem PySem.Spec PyProof.Rows L2 Evl WM
/- 0 value -/
theorem sc_is_int : FnScope ["value"] ["value"] (tScope 8) := ⟨rfl, rfl, rfl, by decide +kernel, rfl, by decide +kernel, by decide +kernel⟩
def spIsInt : Sp := fun vs H Q _ => ∃ i, vs = [.int i] ∧ RetV (.bl true) H Q
/- 0 value, 1 least, 2 most -/
theorem sc_is_from : FnScope ["value", "least", "most"] ["value", "least", "most"] (tScope 9) := ⟨rfl, rfl, rfl, by decide +kernel, rfl, by decide +kernel, by decide +kernel⟩
def spIsFrom : Sp := fun vs H Q _ => ∃ i a b, vs = [.int i, .int a, .int b] ∧ RetV (.bl (decide (a ≤ i) && decide (i ≤ b))) H Q
/- 0 value, 1 least, 2 most -/
theorem sc_need_from : FnScope ["value", "least", "most"] ["value", "least", "most"] (tScope 10) := ⟨rfl, rfl, rfl, by decide +kernel, rfl, by decide +kernel, by decide +kernel⟩
def spNeedFrom : Sp := fun vs H Q _ => ∃ i a b, vs = [.int i, .int a, .int b] ∧ a ≤ i ∧ i ≤ b ∧ RetV .non H Q
/- 0 value, 1 many, 2 low, 3 high, 4 side -/
theorem sc_is_wall : FnScope ["value", "many", "low", "high", "side"] ["value", "many"] (tScope 11) := ⟨rfl, rfl, rfl, by decide +kernel, rfl, by decide +kernel, by decide +kernel⟩
def spIsWall : Sp := fun vs H Q _ => ∃ (a : Addr) (n : Nat) (w : Wl), vs = [.ref a, iN n] ∧ WAt H a w ∧ WOk n w ∧ RetV (.bl true) H Q
/- 0 value, 1 index, 2 wall -/
theorem sc_need_yard : FnScope ["value", "index", "wall"] ["value"] (tScope 12) := ⟨rfl, rfl, rfl, by decide +kernel, rfl, by decide +kernel, by decide +kernel⟩
def spNeedYard : Sp := fun vs H Q _ => ∃ (y : Addr) (n : Nat) (ws : List Wl), vs = [.ref y] ∧ Y H y n ws ∧ Yd n ws ∧ RetV .non H Q
/- 0 yard, 1 value -/
theorem sc_need_wall : FnScope ["yard", "value"] ["yard", "value"] (tScope 13) := ⟨rfl, rfl, rfl, by decide +kernel, rfl, by decide +kernel, by decide +kernel⟩
def spNeedWall : Sp := fun vs H Q _ => ∃ (y : Addr) (n : Nat) (ws : List Wl) (k : Nat), vs = [.ref y, iN k] ∧ Y H y n ws ∧ k < ws.length ∧ RetV .non H Q
/- 0 wall, 1 low, 2 high, 3 side -/
theorem sc_sides_of : FnScope ["wall", "low", "high", "side"] ["wall"] (tScope 14) := ⟨rfl, rfl, rfl, by decide +kernel, rfl, by decide +kernel, by decide +kernel⟩
def spSides : Sp := fun vs H Q _ => ∃ (a : Addr) (w : Wl), vs = [.ref a] ∧ WAt H a w ∧ w.2.2 ≤ 2 ∧ RetU (LN (sides w)) H Q
/- 0 yard -/
theorem sc_every : FnScope ["yard"] ["yard"] (tScope 15) := ⟨rfl, rfl, rfl, by decide +kernel, rfl, by decide +kernel, by decide +kernel⟩
def spEvery : Sp := fun vs H Q _ => ∃ (y : Addr) (n : Nat) (ws : List Wl), vs = [.ref y] ∧ Y H y n ws ∧ ws.length ≤ 6 ∧ RetU (LN (evy ws)) H Q
section
variable {P : Program} {w : World} {K : PySem.W.Frag} {mg : Str → Option Value} {base : Heap}
theorem ok_is_int (T : Tx K mg) (D : Df K mg "is_int" 8) : Cal P w K mg base 1 "is_int" spIsInt := by
  refine D.cal sc_is_int (fun vs H Q E h => ?_) (fun _ _ _ _ _ _ us hl => match us, hl with | [_], _ => rfl) (fun f cdv A outer s H vs Q E hr h => ?_)
  · obtain ⟨i, rfl, _⟩ := h
    rfl
  · obtain ⟨i, rfl, k⟩ := h
    refine ⟨_, (pss_one (ps_ret (pe_and (pe_callB (k_isi (K := K) rfl) (by rfl) T.b_isinstance (by decide +kernel) (pa_cons (pv 0) (pa_cons (pe_bltn (v := .ty "int") (by rfl) T.b_int (by decide +kernel) rfl) pa_nil))) (pe_one (pe_not (pe_callB (k_isi (K := K) rfl) (by rfl) T.b_isinstance (by decide +kernel) (pa_cons (pv 0) (pa_cons (pe_bltn (v := .ty "bool") (by rfl) T.b_bool (by decide +kernel) rfl) pa_nil)))))))), ?_⟩
    exact s_ret (ev_andV (ev_isi (r := true) (ev_var rfl) (fun _ _ => .base (.int i)) (by decide +kernel)) fun _ => ev_notV (ev_isi (r := false) (ev_var rfl) (fun _ _ => .base (.int i)) (by decide +kernel))) k
theorem ok_is_from (g_is_int : Cal P w K mg base 1 "is_int" spIsInt) (D : Df K mg "is_from" 9) : Cal P w K mg base 2 "is_from" spIsFrom := by
  refine D.cal sc_is_from (fun vs H Q E h => ?_) (fun _ _ _ _ _ _ us hl => match us, hl with | [_, _, _], _ => rfl) (fun f cdv A outer s H vs Q E hr h => ?_)
  · obtain ⟨i, a, b, rfl, _⟩ := h
    rfl
  · obtain ⟨i, a, b, rfl, k⟩ := h
    refine ⟨_, (pss_one (ps_ret (pe_and (pcall g_is_int hr (by decide) rfl (pa_cons (pv 0) pa_nil)) (pe_one (pe_chain op_le op_le (pv 1) (pv 0) (pv 2)))))), ?_⟩
    exact s_ret (ev_andV (ev_c1 (ea_cons (ev_var rfl) ea_nil) fun H1 _ Q q => ⟨i, rfl, q⟩) fun _ => ev_chain2 (ev_var rfl) (ev_var rfl) rv_I0 (ev_var rfl) rv_I0) k
theorem ok_need_from (g_is_from : Cal P w K mg base 2 "is_from" spIsFrom) (D : Df K mg "need_from" 10) : Cal P w K mg base 3 "need_from" spNeedFrom := by
  refine D.cal sc_need_from (fun vs H Q E h => ?_) (fun _ _ _ _ _ _ us hl => match us, hl with | [_, _, _], _ => rfl) (fun f cdv A outer s H vs Q E hr h => ?_)
  · obtain ⟨i, a, b, rfl, _⟩ := h
    rfl
  · obtain ⟨i, a, b, rfl, h1, h2, k⟩ := h
    refine ⟨_, (pss_one (ps_if (pt_not (pt_val (pcall g_is_from hr (by decide) rfl (pa_cons (pv 0) (pa_cons (pv 1) (pa_cons (pv 2) pa_nil)))))) (pss_one ps_never) pss_nil)), ?_⟩
    have e : (decide (a ≤ i) && decide (i ≤ b)) = true := by rw [decide_eq_true h1, decide_eq_true h2]; rfl
    refine s_if0 (et_is (et_not (et_B (ev_c1 (ea_cons (ev_var rfl) (ea_cons (ev_var rfl) (ea_cons (ev_var rfl) ea_nil))) fun H1 _ Q q => ⟨i, a, b, rfl, q⟩))) (by rw [e]; rfl)) k
theorem ok_need_wall (g_is_from : Cal P w K mg base 2 "is_from" spIsFrom) (T : Tx K mg) (D : Df K mg "need_wall" 13) : Cal P w K mg base 3 "need_wall" spNeedWall := by
  refine D.cal sc_need_wall (fun vs H Q E h => ?_) (fun _ _ _ _ _ _ us hl => match us, hl with | [_, _], _ => rfl) (fun f cdv A outer s H vs Q E hr h => ?_)
  · obtain ⟨y, n, ws, m, rfl, _⟩ := h
    rfl
  · obtain ⟨y, n, ws, m, rfl, hy, hm, k⟩ := h
    refine ⟨_, (pss_one (ps_if (pt_not (pt_val (pcall g_is_from hr (by decide) rfl (pa_cons (pv 1) (pa_cons pe_int (pa_cons (pe_op op_sub (pe_callB (k_len (K := K) rfl) (by rfl) T.b_len (by decide +kernel) (pa_cons (pe_ix (k_ixT (K := K) rfl) (pv 0) pe_int (fun _ _ => rfl)) pa_nil)) pe_int) pa_nil)))))) (pss_one ps_never) pss_nil)), ?_⟩
    have e : (decide ((0 : Int) ≤ (m : Int)) && decide ((m : Int) ≤ (ws.length : Int) - 1)) = true := by rw [decide_eq_true (by omega), decide_eq_true (by omega)]; rfl
    refine s_if0 (et_is (et_not (et_B (ev_c1 (ea_cons (ev_var rfl) (ea_cons ev_c (ea_cons (ev_op (ev_ylen hy (ev_var rfl) ev_c) ev_c rv_I0) ea_nil))) fun H1 _ Q q => ⟨m, 0, _, rfl, q⟩))) (by rw [e]; rfl)) k
theorem ok_every (T : Tx K mg) (D : Df K mg "every" 15) : Cal P w K mg base 1 "every" spEvery := by
  refine D.cal sc_every (fun vs H Q E h => ?_) (fun _ _ _ _ _ _ us hl => match us, hl with | [_], _ => rfl) (fun f cdv A outer s H vs Q E hr h => ?_)
  · obtain ⟨y, n, ws, rfl, _⟩ := h
    rfl
  · obtain ⟨y, n, ws, rfl, hy, h6, k⟩ := h
    refine ⟨_, (pss_one (ps_ret (pe_tupRg rfl (by rfl) T.b_tuple (prg_1 (by rfl) T.b_range (pe_callB (k_len (K := K) rfl) (by rfl) T.b_len (by decide +kernel) (pa_cons (pe_ix (k_ixT (K := K) rfl) (pv 0) pe_int (fun _ _ => rfl)) pa_nil)))))), ?_⟩
    exact s_retP (ep_rg (ev_ylen hy (ev_var rfl) ev_c) (by omega)) k
theorem ok_sides_of (D : Df K mg "sides_of" 14) : Cal P w K mg base 1 "sides_of" spSides := by
  refine D.cal sc_sides_of (fun vs H Q E h => ?_) (fun _ _ _ _ _ _ us hl => match us, hl with | [_], _ => rfl) (fun f cdv A outer s H vs Q E hr h => ?_)
  · obtain ⟨a, wl, rfl, _⟩ := h
    rfl
  · obtain ⟨a, ⟨lo, hi, sd⟩, rfl, ha, hs, k⟩ := h
    refine ⟨_, (pss_cons (ps_asg (pv 0) (k_gtup (K := K) rfl (by rfl) (pgs_cons (pg_name (i := 1) sc_sides_of.nd rfl (by first | exact Or.inl rfl | exact Or.inr rfl)) (pgs_cons (pg_name (i := 2) sc_sides_of.nd rfl (by first | exact Or.inl rfl | exact Or.inr rfl)) (pgs_cons (pg_name (i := 3) sc_sides_of.nd rfl (by first | exact Or.inl rfl | exact Or.inr rfl)) pgs_nil)))))
      (pss_one (ps_ret (pe_ix (k_ixL (K := K) rfl) (pe_lst (pa_cons (pe_tup (pa_cons (pv 1) pa_nil)) (pa_cons (pe_tup (pa_cons (pv 2) pa_nil)) (pa_cons (pe_tup (pa_cons (pv 1) (pa_cons (pv 2) pa_nil))) pa_nil)))) (pv 3) (fun _ _ => rfl))))), ?_⟩
    refine q_unp3 (ep_ev (ev_var rfl) ha) fun H1 e1 => ?_
    refine s_retP (xs := LN (sides (lo, hi, sd))) (fun H2 e2 Q' q => ?_) fun p H3 e3 h3 => k p H3 (e1.trans e3) h3
    have sz : ∀ n : Nat, n ≤ 3 → n ≤ sizeLine := fun n h => Nat.le_trans h (by decide)
    refine ⟨_, rfl, sz _ (by simp), fun p1 n1 => ⟨_, rfl, sz _ (by simp), fun p2 n2 => ⟨_, rfl, _, rfl, sz _ (by simp), fun p3 n3 => ⟨sz _ (by simp), fun l nl => ?_⟩⟩⟩⟩
    have x1 := Ex.new (o := .tup [iN lo]) n1
    have x2 := Ex.new (o := .tup [iN hi]) n2
    have x3 := Ex.new (o := .tup [iN lo, iN hi]) n3
    have x4 := Ex.new (o := .lst [.ref p1, .ref p2, .ref p3]) nl
    have hsd : sd = 0 ∨ sd = 1 ∨ sd = 2 := by
      have : sd ≤ 2 := hs
      omega
    rcases hsd with rfl | rfl | rfl
    · exact ⟨_, rfl, l, _, _, .ref p1, rfl, rfl, sq_of upd_same, atI_nat (j := 0) rfl, q p1 _ (x1.trans (x2.trans (x3.trans x4))) ((x2.trans (x3.trans x4)) _ _ upd_same)⟩
    · exact ⟨_, rfl, l, _, _, .ref p2, rfl, rfl, sq_of upd_same, atI_nat (j := 1) rfl, q p2 _ (x1.trans (x2.trans (x3.trans x4))) ((x3.trans x4) _ _ upd_same)⟩
    · exact ⟨_, rfl, l, _, _, .ref p3, rfl, rfl, sq_of upd_same, atI_nat (j := 2) rfl, q p3 _ (x1.trans (x2.trans (x3.trans x4))) (x4 _ _ upd_same)⟩
theorem ok_is_wall (g_is_from : Cal P w K mg base 2 "is_from" spIsFrom) (T : Tx K mg) (D : Df K mg "is_wall" 11) : Cal P w K mg base 3 "is_wall" spIsWall := by
  refine D.cal sc_is_wall (fun vs H Q E h => ?_) (fun _ _ _ _ _ _ us hl => match us, hl with | [_, _], _ => rfl) (fun f cdv A outer s H vs Q E hr h => ?_)
  · obtain ⟨a, n, wl, rfl, _⟩ := h
    rfl
  · obtain ⟨a, n, ⟨lo, hi, sd⟩, rfl, ha, ⟨o1, o2, o3⟩, k⟩ := h
    refine ⟨_, (pss_cons (ps_if (PW.pt (pw_or (pt_not (pt_val (pe_callB (k_isi (K := K) rfl) (by rfl) T.b_isinstance (by decide +kernel) (pa_cons (pv 0) (pa_cons (pe_bltn (v := .ty "tuple") (by rfl) T.b_tuple (by decide +kernel) rfl) pa_nil))))) (pw_or1 (pt_cmpR op_ne (pe_callB (k_len (K := K) rfl) (by rfl) T.b_len (by decide +kernel) (pa_cons (pv 0) pa_nil)) pe_int (nomark _))))) (pss_one (ps_ret pe_bl)) pss_nil)
      (pss_cons (ps_asg (pv 0) (k_gtup (K := K) rfl (by rfl) (pgs_cons (pg_name (i := 2) sc_is_wall.nd rfl (by first | exact Or.inl rfl | exact Or.inr rfl)) (pgs_cons (pg_name (i := 3) sc_is_wall.nd rfl (by first | exact Or.inl rfl | exact Or.inr rfl)) (pgs_cons (pg_name (i := 4) sc_is_wall.nd rfl (by first | exact Or.inl rfl | exact Or.inr rfl)) pgs_nil)))))
      (pss_one (ps_ret (pe_and (pcall g_is_from hr (by decide) rfl (pa_cons (pv 2) (pa_cons pe_int (pa_cons (pe_op op_sub (pv 1) pe_int) pa_nil)))) (pe_and (pcall g_is_from hr (by decide) rfl (pa_cons (pv 3) (pa_cons pe_int (pa_cons (pe_op op_sub (pv 1) pe_int) pa_nil)))) (pe_and (pe_cmpR op_lt (pv 2) (pv 3) (nomark _)) (pe_one (pcall g_is_from hr (by decide) rfl (pa_cons (pv 4) (pa_cons pe_int (pa_cons pe_int pa_nil)))))))))))), ?_⟩
    have o1 : lo < hi := o1
    have o2 : hi < n := o2
    have o3 : sd ≤ 2 := o3
    refine q_if0 (et_or (et_not (et_B (ev_isi (r := true) (ev_var rfl) (fun H1 e1 => .base (.tup (e1 _ _ ha))) (by decide +kernel)))) fun _ => et_test (ev_op (ev_lenT (ev_var rfl) ha) ev_c (rv_ne rfl))) fun H1 e1 => ?_
    refine q_unp3 (ep_ev (ev_var rfl) (e1 _ _ ha)) fun H2 e2 => ?_
    have c : ∀ {i a b : Int}, a ≤ i → i ≤ b → (decide (a ≤ i) && decide (i ≤ b)) = true := fun h1 h2 => by rw [decide_eq_true h1, decide_eq_true h2]; rfl
    refine s_ret (v := .bl true) (ev_is (ev_andV (ev_c1 (ea_cons (ev_var rfl) (ea_cons ev_c (ea_cons (ev_op (ev_var rfl) ev_c rv_I0) ea_nil))) fun H1 _ Q q => ⟨_, _, _, rfl, q⟩) fun _ =>
      ev_andV (ev_c1 (ea_cons (ev_var rfl) (ea_cons ev_c (ea_cons (ev_op (ev_var rfl) ev_c rv_I0) ea_nil))) fun H1 _ Q q => ⟨_, _, _, rfl, q⟩) fun _ =>
      ev_andV (ev_op (ev_var rfl) (ev_var rfl) rv_I0) fun _ => ev_c1 (ea_cons (ev_var rfl) (ea_cons ev_c (ea_cons ev_c ea_nil))) fun H1 _ Q q => ⟨_, _, _, rfl, q⟩) ?_) fun H3 e3 => k H3 ((e1.trans e2).trans e3)
    rw [c (by omega) (by omega), c (by omega) (by omega), c (by omega) (by omega), decide_eq_true (by omega)]
    rfl
theorem ok_need_yard (g_is_from : Cal P w K mg base 2 "is_from" spIsFrom) (g_is_wall : Cal P w K mg base 3 "is_wall" spIsWall) (T : Tx K mg) (D : Df K mg "need_yard" 12) : Cal P w K mg base 4 "need_yard" spNeedYard := by
  refine D.cal sc_need_yard (fun vs H Q E h => ?_) (fun _ _ _ _ _ _ us hl => match us, hl with | [_], _ => rfl) (fun f cdv A outer s H vs Q E hr h => ?_)
  · obtain ⟨y, n, ws, rfl, _⟩ := h
    rfl
  · obtain ⟨y, n, ws, rfl, hy, yd, k⟩ := h
    refine ⟨_, (pss_cons (ps_if (PW.pt (pw_or (pt_not (pt_val (pe_callB (k_isi (K := K) rfl) (by rfl) T.b_isinstance (by decide +kernel) (pa_cons (pv 0) (pa_cons (pe_bltn (v := .ty "tuple") (by rfl) T.b_tuple (by decide +kernel) rfl) pa_nil))))) (pw_or (pt_cmpR op_ne (pe_callB (k_len (K := K) rfl) (by rfl) T.b_len (by decide +kernel) (pa_cons (pv 0) pa_nil)) pe_int (nomark _)) (pw_or1 (pt_not (pt_val (pcall g_is_from hr (by decide) rfl (pa_cons (pe_ix (k_ixT (K := K) rfl) (pv 0) pe_int (fun _ _ => rfl)) (pa_cons pe_int (pa_cons (pcon rfl T.c_MOST_ROOMS) pa_nil)))))))))) (pss_one ps_never) pss_nil)
      (pss_cons (ps_if (PW.pt (pw_or (pt_not (pt_val (pe_callB (k_isi (K := K) rfl) (by rfl) T.b_isinstance (by decide +kernel) (pa_cons (pe_ix (k_ixT (K := K) rfl) (pv 0) pe_int (fun _ _ => rfl)) (pa_cons (pe_bltn (v := .ty "tuple") (by rfl) T.b_tuple (by decide +kernel) rfl) pa_nil))))) (pw_or1 (pt_cmpR op_gt (pe_callB (k_len (K := K) rfl) (by rfl) T.b_len (by decide +kernel) (pa_cons (pe_ix (k_ixT (K := K) rfl) (pv 0) pe_int (fun _ _ => rfl)) pa_nil)) (pcon rfl T.c_MOST_WALLS) (nomark _))))) (pss_one ps_never) pss_nil)
      (pss_one (ps_for PassesOwn.never rfl (WR.pi_enumT (by rfl) T.b_enumerate (pa_cons (pe_ix (k_ixT (K := K) rfl) (pv 0) pe_int (fun _ _ => rfl)) pa_nil)) (k_gtup (K := K) rfl (by rfl) (pgs_cons (pg_name (i := 1) sc_need_yard.nd rfl (by first | exact Or.inl rfl | exact Or.inr rfl)) (pgs_cons (pg_name (i := 2) sc_need_yard.nd rfl (by first | exact Or.inl rfl | exact Or.inr rfl)) pgs_nil)))
        (pss_one (ps_if (pt_not (pt_val (pcall g_is_wall hr (by decide) rfl (pa_cons (pv 2) (pa_cons (pe_ix (k_ixT (K := K) rfl) (pv 0) pe_int (fun _ _ => rfl)) pa_nil))))) (pss_one ps_never) pss_nil)))))), ?_⟩
    obtain ⟨wa, as, h1, h2, h3, h4⟩ := hy.ex
    have g1 := yd.good.1
    have g2 := yd.rooms
    have g3 := yd.few
    refine q_if0 (et_is (et_or (et_not (et_B (ev_isi (r := true) (ev_var rfl) (fun H1 e1 => .base (.tup (e1 _ _ h1))) (by decide +kernel)))) fun _ => et_or (et_test (ev_op (ev_lenT (ev_var rfl) h1) ev_c (rv_ne rfl))) fun _ =>
      et_not (et_B (ev_c1 (ea_cons (ev_ixT (ev_var rfl) ev_c h1 (atI_nat (j := 0) rfl)) (ea_cons ev_c (ea_cons ev_c ea_nil))) fun H1 _ Q q => ⟨_, _, _, rfl, q⟩))) ?_) fun H1 e1 => ?_
    · rw [show (decide ((1 : Int) ≤ (n : Int)) && decide ((n : Int) ≤ 9)) = true by rw [decide_eq_true (by omega), decide_eq_true (by omega)]; rfl]
      rfl
    refine q_if0 (et_is (et_or (et_not (et_B (ev_isi (r := true) (ev_ixT (ev_var rfl) ev_c (e1 _ _ h1) (atI_nat (j := 1) rfl)) (fun H2 e2 => .base (.tup (e2 _ _ (e1 _ _ h2)))) (by decide +kernel)))) fun _ =>
      et_test (ev_op (ev_lenT (ev_ixT (ev_var rfl) ev_c (e1 _ _ h1) (atI_nat (j := 1) rfl)) (e1 _ _ h2)) ev_c rv_I0)) ?_) fun H2 e2 => ?_
    · rw [List.length_map, h3, decide_eq_false (by omega)]
      rfl
    have e12 := e1.trans e2
    refine s_forE (a := wa) (xs := as.map V.ref) (ea_cons (ev_ixT (ev_var rfl) ev_c (e12 _ _ h1) (atI_nat (j := 1) rfl)) ea_nil) (e12 _ _ h2) (fun i σ' H' => (∃ o1 o2, σ' = [some (.ref y), o1, o2]) ∧ Ex H H')
      (fun H3 e3 => ⟨⟨none, none, rfl⟩, e12.trans e3⟩) (fun i σ' H' p => p.2 _ _ h2) (fun i x Tp σ' H' hx p hT => ?_) (fun σ' H' p => k H' p.2)
    obtain ⟨⟨o1, o2, rfl⟩, eH⟩ := p
    rw [List.getElem?_map] at hx
    obtain ⟨a, ha, rfl⟩ := Option.map_eq_some_iff.mp hx
    have hi : i < ws.length := by rw [← h3]; exact (List.getElem?_eq_some_iff.mp ha).1
    have hw : ws[i]? = some ws[i] := List.getElem?_eq_getElem hi
    have eN : Ex H (upd H' Tp (.tup [iN i, .ref a])) := eH.trans (Ex.new hT)
    refine ⟨Tp, [iN i, .ref a], rfl, st_of upd_same, rfl, _, _, rfl, _, _, rfl, rfl, ?_⟩
    have e : WOk n ws[i] := yd.ok hw
    refine s_if0 (et_is (et_not (et_B (ev_c1 (ea_cons (ev_var rfl) (ea_cons (ev_ixT (ev_var rfl) ev_c (eN _ _ h1) (atI_nat (j := 0) rfl)) ea_nil)) fun H4 e4 Q q => ⟨a, n, _, rfl, e4 _ _ (eN _ _ (h4 i a _ ha hw)), e, q⟩))) rfl) fun H4 e4 => ?_
    exact ⟨⟨_, _, rfl⟩, eN.trans e4⟩
end
end WL


set_option Elab.async false
set_option linter.all false
set_option maxRecDepth 100000
set_option maxHeartbeats 4000000
/-! Rooms come to, walls that may come. -/
namespace WL
open PySem PySem.Spec PyProof.Rows L2 Evl WM
/-! ### the rooms found so far -/
structure Fd (ws : List Wl) (lot found : List Nat) : Prop where
  out : 0 ∈ found
  nd : found.Nodup
  come : ∀ x ∈ found, Reach ws lot x
theorem Fd.start (ws : List Wl) (lot : List Nat) : Fd ws lot [0] := ⟨by simp, by simp, fun x hx => by rw [List.mem_singleton.mp hx]; exact Reach.zero⟩
theorem Fd.len {n : Nat} {ws : List Wl} {lot found : List Nat} (g : Good n ws) (h : Fd ws lot found) : found.length ≤ n := pigeon_lt h.nd fun x hx => Reach.lt g (h.come x hx)
theorem Fd.more {ws : List Wl} {lot found : List Nat} (h : Fd ws lot found) {k r : Nat} {w : Wl} (hk : k ∈ lot) (hw : ws[k]? = some w) (hr : r ∈ sides w) (hf : r ∈ found) (hn : oth w r ∉ found) : Fd ws lot (found ++ [oth w r]) := by
  refine ⟨List.mem_append_left _ h.out, ?_, fun x hx => ?_⟩
  · rw [List.nodup_append]
    exact ⟨h.nd, by simp, fun a ha b hb e => hn (by rw [← List.mem_singleton.mp hb, ← e]; exact ha)⟩
  · rcases List.mem_append.mp hx with q | q
    · exact h.come x q
    · rw [List.mem_singleton.mp q]
      exact (h.come r hf).step hk hw hr
theorem Fd.all {ws : List Wl} {lot found : List Nat} (h : Fd ws lot found) (hc : Closed ws lot found) (r : Nat) : r ∈ found ↔ Reach ws lot r := ⟨h.come r, fun p => closed_reach h.out hc p⟩
/-- behind some walls of a turn: nothing new, or more -/
structure Mo (ws : List Wl) (lot f0 found : List Nat) (b : Bool) : Prop where
  fd : Fd ws lot found
  same : b = false → found = f0
  more : b = true → f0.length < found.length
theorem Mo.le {ws : List Wl} {lot f0 found : List Nat} {b : Bool} (h : Mo ws lot f0 found b) : f0.length ≤ found.length := by
  cases b with
  | true => exact Nat.le_of_lt (h.more rfl)
  | false => rw [h.same rfl]; exact Nat.le_refl _
/-- a step through a wall's gap, from one room to the other -/
def Crossed (w : Wl) (one other : Nat) (found : List Nat) : Prop := one ∈ sides w → one ∈ found → other ∈ found
theorem crossed_all {w : Wl} {found : List Nat} (h1 : Crossed w w.1 w.2.1 found) (h2 : Crossed w w.2.1 w.1 found) : ∀ r ∈ sides w, r ∈ found → oth w r ∈ found := fun r hr hf => by
  rcases oth_end hr with ⟨e1, e2⟩ | ⟨e1, e2⟩
  · rw [e2]; rw [e1] at hr hf; exact h1 hr hf
  · rw [e2]; rw [e1] at hr hf; exact h2 hr hf
/- 0 yard, 1 lot, 2 number -/
theorem sc_rest_of : FnScope ["yard", "lot", "number"] ["yard", "lot"] (tScope 17) := ⟨rfl, rfl, rfl, by decide +kernel, rfl, by decide +kernel, by decide +kernel⟩
def spRest : Sp := fun vs H Q _ => ∃ (y l : Addr) (n : Nat) (ws : List Wl) (lot : List Nat), vs = [.ref y, .ref l] ∧ Y H y n ws ∧ ws.length ≤ 6 ∧ H l = some (.tup (LN lot)) ∧ RetU (LN (rest ws lot)) H Q
/- 0 lot, 1 number, 2 one -/
theorem sc_without : FnScope ["lot", "number", "one"] ["lot", "number"] (tScope 21) := ⟨rfl, rfl, rfl, by decide +kernel, rfl, by decide +kernel, by decide +kernel⟩
def spWithout : Sp := fun vs H Q _ => ∃ (l : Addr) (lot : List Nat) (k : Nat), vs = [.ref l, iN k] ∧ lot.length ≤ 6 ∧ H l = some (.tup (LN lot)) ∧ RetU (LN (lot.filter fun x => decide (x ≠ k))) H Q
/- 0 yard, 1 lot, 2 found, 3 rising, 4 number, 5 low, 6 high, 7 side, 8 one, 9 other -/
theorem sc_reached : FnScope ["yard", "lot", "found", "rising", "number", "low", "high", "side", "one", "other"] ["yard", "lot"] (tScope 16) := ⟨rfl, rfl, rfl, by decide +kernel, rfl, by decide +kernel, by decide +kernel⟩
def spReached : Sp := fun vs H Q _ => ∃ (y l : Addr) (n : Nat) (ws : List Wl) (lot : List Nat), vs = [.ref y, .ref l] ∧ Y H y n ws ∧ Yd n ws ∧ H l = some (.tup (LN lot)) ∧ (∀ x ∈ lot, x < ws.length) ∧
  ∀ R p H2, Ex H H2 → H2 p = some (.lst (LN R)) → (∀ r, r ∈ R ↔ Reach ws lot r) → Q (.ref p) H2
section
variable {P : Program} {w : World} {K : PySem.W.Frag} {mg : Str → Option Value} {base : Heap}
theorem ok_rest_of (g_every : Cal P w K mg base 1 "every" spEvery) (T : Tx K mg) (D : Df K mg "rest_of" 17) : Cal P w K mg base 2 "rest_of" spRest := by
  refine D.cal sc_rest_of (fun vs H Q E h => ?_) (fun _ _ _ _ _ _ us hl => match us, hl with | [_, _], _ => rfl) (fun f cdv A outer s H vs Q E hr h => ?_)
  · obtain ⟨y, l, n, ws, lot, rfl, _⟩ := h
    rfl
  · obtain ⟨y, l, n, ws, lot, rfl, hy, h6, hl, k⟩ := h
    refine ⟨_, (pss_one (ps_ret (pe_callTy (k_tupOf (K := K) rfl) (by rfl) T.b_tuple (by decide +kernel) (pa_cons (pe_lc (own := [("number", 2)]) (g := gName 2) rfl sc_rest_of.nd (k_pt (K := K) rfl (pcall g_every hr (by decide) rfl (pa_cons (pv 0) pa_nil))) (blkOk_by (by kernel_rfl)) (fun _ _ _ _ _ => pg_name (i := 2) sc_rest_of.nd rfl (by first | exact Or.inl rfl | exact Or.inr rfl)) (fun _ _ _ _ _ => pts_one (pt_cmpR (k_nin (K := K) rfl) (pv 2) (pv 1) (by with_unfolding_all rfl))) (fun _ _ _ _ _ => (pv 2))) pa_nil)))), ?_⟩
    have z6 : (evy ws).length ≤ 40000 := by unfold evy; rw [List.length_range]; omega
    exact s_retP (EvP.of (eu_tupL (el_nat (l := evy ws) (fun x => decide (x ∉ lot)) iN (ep_c1 (ea_cons (ev_var rfl) ea_nil) fun H1 e1 Q q => ⟨y, n, ws, rfl, hy.ext e1, h6, q⟩) z6 (fun _ => rfl)
      (fun x hx H1 e1 => et_test (ev_niTn (ev_var rfl) (ep_var rfl (e1 _ _ hl)))) (fun x hx _ H1 e1 => ev_var rfl)))) k
theorem ok_without (T : Tx K mg) (D : Df K mg "without" 21) : Cal P w K mg base 1 "without" spWithout := by
  refine D.cal sc_without (fun vs H Q E h => ?_) (fun _ _ _ _ _ _ us hl => match us, hl with | [_, _], _ => rfl) (fun f cdv A outer s H vs Q E hr h => ?_)
  · obtain ⟨l, lot, m, rfl, _⟩ := h
    rfl
  · obtain ⟨l, lot, m, rfl, h6, hl, k⟩ := h
    refine ⟨_, (pss_one (ps_ret (pe_callTy (k_tupOf (K := K) rfl) (by rfl) T.b_tuple (by decide +kernel) (pa_cons (pe_lc (own := [("one", 2)]) (g := gName 2) rfl sc_without.nd (k_pt (K := K) rfl (pv 0)) (blkOk_by (by kernel_rfl)) (fun _ _ _ _ _ => pg_name (i := 2) sc_without.nd rfl (by first | exact Or.inl rfl | exact Or.inr rfl)) (fun _ _ _ _ _ => pts_one (pt_cmpR op_ne (pv 2) (pv 1) (nomark _))) (fun _ _ _ _ _ => (pv 2))) pa_nil)))), ?_⟩
    refine s_retP (EvP.of (eu_tupL (el_nat (l := lot) (fun x => decide (x ≠ m)) iN (ep_var rfl hl) (by omega) (fun _ => rfl)
      (fun x hx H1 e1 => et_is (et_test (ev_op (ev_var rfl) (ev_var rfl) (rv_ne rfl))) ?_) (fun x hx _ H1 e1 => ev_var rfl)))) k
    rw [← decide_not]
    exact decide_eq_decide.mpr ⟨fun h e => h (by rw [e]), fun h e => h (by injection e with e; omega)⟩
theorem ok_reached (g_sides_of : Cal P w K mg base 1 "sides_of" spSides) (T : Tx K mg) (D : Df K mg "reached" 16) : Cal P w K mg base 2 "reached" spReached := by
  refine D.cal sc_reached (fun vs H Q E h => ?_) (fun _ _ _ _ _ _ us hl => match us, hl with | [_, _], _ => rfl) (fun f cdv A outer s H vs Q E hr h => ?_)
  · obtain ⟨y, l, n, ws, lot, rfl, _⟩ := h
    rfl
  · obtain ⟨y, l, n, ws, lot, rfl, hy, yd, hl, hlot, k⟩ := h
    refine ⟨_, (pss_cons (ps_par (i := 2) (j := 3) rfl sc_reached.nd rfl rfl (by decide) rfl rfl (pa_cons (pe_lst (pa_cons pe_int pa_nil)) (pa_cons pe_bl pa_nil)) (by rfl))
      (pss_cons (ps_while PassesOwn.never (pt_val (pv 3))
        (pss_cons (ps_set (i := 3) sc_reached.nd rfl (by first | exact Or.inl rfl | exact Or.inr rfl) pe_bl)
        (pss_one (ps_for PassesOwn.never rfl (k_pt (K := K) rfl (pv 1)) (pg_name (i := 4) sc_reached.nd rfl (by first | exact Or.inl rfl | exact Or.inr rfl))
          (pss_cons (ps_asg (pe_ix (k_ixT (K := K) rfl) (pe_ix (k_ixT (K := K) rfl) (pv 0) pe_int (fun _ _ => rfl)) (pv 4) (fun _ _ => rfl)) (k_gtup (K := K) rfl (by rfl) (pgs_cons (pg_name (i := 5) sc_reached.nd rfl (by first | exact Or.inl rfl | exact Or.inr rfl)) (pgs_cons (pg_name (i := 6) sc_reached.nd rfl (by first | exact Or.inl rfl | exact Or.inr rfl)) (pgs_cons (pg_name (i := 7) sc_reached.nd rfl (by first | exact Or.inl rfl | exact Or.inr rfl)) pgs_nil)))))
          (pss_one (ps_for PassesOwn.never rfl (k_pt (K := K) rfl (pe_tup (pa_cons (pe_tup (pa_cons (pv 5) (pa_cons (pv 6) pa_nil))) (pa_cons (pe_tup (pa_cons (pv 6) (pa_cons (pv 5) pa_nil))) pa_nil)))) (k_gtup (K := K) rfl (by rfl) (pgs_cons (pg_name (i := 8) sc_reached.nd rfl (by first | exact Or.inl rfl | exact Or.inr rfl)) (pgs_cons (pg_name (i := 9) sc_reached.nd rfl (by first | exact Or.inl rfl | exact Or.inr rfl)) pgs_nil)))
            (pss_one (ps_if (PW.pt (pw_and (pt_cmpR (k_in (K := K) rfl) (pv 8) (pv 2) (by with_unfolding_all rfl)) (pw_and (pt_cmpR (k_nin (K := K) rfl) (pv 9) (pv 2) (by with_unfolding_all rfl)) (pw_and1 (pt_cmpR (k_in (K := K) rfl) (pv 8) (pcall g_sides_of hr (by decide) rfl (pa_cons (pe_ix (k_ixT (K := K) rfl) (pe_ix (k_ixT (K := K) rfl) (pv 0) pe_int (fun _ _ => rfl)) (pv 4) (fun _ _ => rfl)) pa_nil)) (by with_unfolding_all rfl)))))) (pss_cons (ps_expr (pe_bm PySem.F.plainAttrs_list PySem.F.slot_list_append PySem.F.type_list_append mt_append (pv 2) (pa_cons (pv 9) pa_nil)))
              (pss_one (ps_set (i := 3) sc_reached.nd rfl (by first | exact Or.inl rfl | exact Or.inr rfl) pe_bl))) pss_nil)))))))))
      (pss_one (ps_ret (pe_callB (k_sortL (K := K) rfl) (by rfl) T.b_sorted (by decide +kernel) (pa_cons (pv 2) pa_nil)))))), ?_⟩
    refine ⟨Nat.le_trans (by decide : 1 ≤ 1) (by decide), fun fo nfo => ⟨_, _, rfl, ?_⟩⟩
    have e0 : Ex H (upd H fo (.lst (LN [0]))) := Ex.new nfo
    refine q_while (fun m σ H' => ∃ found b o4 o5 o6 o7 o8 o9, σ = [some (.ref y), some (.ref l), some (.ref fo), some (.bl b), o4, o5, o6, o7, o8, o9] ∧ Ex H H' ∧ H' fo = some (.lst (LN found)) ∧ Fd ws lot found ∧ (b = false → Closed ws lot found) ∧ m = 2 * (n - found.length) + (if b = true then 1 else 0))
      (2 * (n - 1) + 1) ⟨[0], true, _, _, _, _, _, _, rfl, e0, upd_same, Fd.start ws lot, fun h => absurd h (by decide), rfl⟩ ?_
    rintro m σ H1 ⟨found, b, o4, o5, o6, o7, o8, o9, rfl, e1, hf, fd, cl, rfl⟩
    refine ⟨b, et_B (ev_var rfl), fun hb H2 e2 => ?_, fun hb H2 e2 => ?_⟩
    · subst hb
      -- one turn over the lot
      refine ⟨fun σ2 H3 => ∃ f2 b2 o4 o5 o6 o7 o8 o9, σ2 = [some (.ref y), some (.ref l), some (.ref fo), some (.bl b2), o4, o5, o6, o7, o8, o9] ∧ Ex H H3 ∧ H3 fo = some (.lst (LN f2)) ∧ Mo ws lot found f2 b2 ∧ (b2 = false → Closed ws lot f2), ?_, ?_⟩
      · rintro σ2 H3 ⟨f2, b2, p4, p5, p6, p7, p8, p9, rfl, e3, hf2, mo, cl2⟩
        have l1 := fd.len yd.good
        have l2 := mo.fd.len yd.good
        have l3 := mo.le
        refine ⟨2 * (n - f2.length) + (if b2 = true then 1 else 0), ?_, f2, b2, _, _, _, _, _, _, rfl, e3, hf2, mo.fd, cl2, rfl⟩
        cases b2 with
        | true =>
          have := mo.more rfl
          show 2 * (n - f2.length) + 1 < 2 * (n - found.length) + 1
          omega
        | false =>
          rw [mo.same rfl]
          show 2 * (n - found.length) + 0 < 2 * (n - found.length) + 1
          omega
      refine q_asg ev_c fun H3 e3 => ?_
      have eH3 : Ex H H3 := (e1.trans e2).trans e3
      refine s_forT (a := l) (xs := LN lot) (ev_var rfl) (st_of (eH3 _ _ hl)) (fun i σ' H' => ∃ f2 b2 o4 o5 o6 o7 o8 o9, σ' = [some (.ref y), some (.ref l), some (.ref fo), some (.bl b2), o4, o5, o6, o7, o8, o9] ∧ Ex H H' ∧ H' fo = some (.lst (LN f2)) ∧ Mo ws lot found f2 b2 ∧
          (b2 = false → ∀ j, j < i → ∀ (q : Nat) (wl : Wl), lot[j]? = some q → ws[q]? = some wl → ∀ r ∈ sides wl, r ∈ f2 → oth wl r ∈ f2))
        (fun H4 e4 => ⟨found, false, _, _, _, _, _, _, rfl, eH3.trans e4, e4 _ _ (e3 _ _ (e2 _ _ hf)), ⟨fd, fun _ => rfl, fun h => absurd h (by decide)⟩, fun _ j hj => absurd hj (Nat.not_lt_zero _)⟩)
        (fun i σ' H' _ p => st_of (p.choose_spec.choose_spec.choose_spec.choose_spec.choose_spec.choose_spec.choose_spec.choose_spec.2.1 _ _ hl)) ?_ ?_
      · -- a wall of the lot
        rintro i x σ' H' hx ⟨f2, b2, o4, o5, o6, o7, o8, o9, rfl, eH, hf2, mo, pr⟩
        obtain ⟨q, hq, rfl⟩ := get_LN hx
        have hql : q ∈ lot := List.mem_of_getElem? hq
        obtain ⟨wl, hqw⟩ : ∃ wl, ws[q]? = some wl := ⟨_, List.getElem?_eq_getElem (hlot q hql)⟩
        obtain ⟨lo, hi, sd⟩ := wl
        have wok : WOk n (lo, hi, sd) := yd.ok hqw
        show tSeq _ _ _ _ _
        refine q_unp3 (ep_wall (hy.ext eH) hqw (ev_var rfl) ev_c (ev_var rfl)) fun H4 e4 => ?_
        have eH4 := eH.trans e4
        have z2 : 2 ≤ sizeLine := by decide
        refine ⟨_, rfl, _, rfl, z2, fun p1 n1 => ⟨_, rfl, _, rfl, z2, fun p2 n2 => ⟨z2, fun p np => ⟨p, rfl, ⟨_, st_of upd_same⟩, ?_⟩⟩⟩⟩
        have x1 := Ex.new (o := .tup [iN lo, iN hi]) n1
        have x2 := Ex.new (o := .tup [iN hi, iN lo]) n2
        have x3 := Ex.new (o := .tup [.ref p1, .ref p2]) np
        have x13 := x1.trans (x2.trans x3)
        refine for_tup (xs := [.ref p1, .ref p2]) (fun i2 σ' H' => ∃ f3 b3 o8 o9, σ' = [some (.ref y), some (.ref l), some (.ref fo), some (.bl b3), some (iN q), some (iN lo), some (iN hi), some (iN sd), o8, o9] ∧ Ex H H' ∧ H' fo = some (.lst (LN f3)) ∧
            H' p = some (.tup [.ref p1, .ref p2]) ∧ H' p1 = some (.tup [iN lo, iN hi]) ∧ H' p2 = some (.tup [iN hi, iN lo]) ∧ Mo ws lot found f3 b3 ∧ (b3 = false → b2 = false) ∧
            (b3 = false → (1 ≤ i2 → Crossed (lo, hi, sd) lo hi f3) ∧ (2 ≤ i2 → Crossed (lo, hi, sd) hi lo f3)))
          ⟨f2, b2, _, _, rfl, eH4.trans x13, x13 _ _ (e4 _ _ hf2), upd_same, (x2.trans x3) _ _ upd_same, x3 _ _ upd_same, mo, id, fun _ => ⟨fun h => absurd h (by omega), fun h => absurd h (by omega)⟩⟩
          (fun i2 σ' H' _ p => ?_) ?_ ?_
        · obtain ⟨f3, b3, o8, o9, _, _, _, hp, _⟩ := p
          exact st_of hp
        · rintro i2 x σ' H' hx ⟨f3, b3, o8, o9, rfl, eH', hf3, hp, hp1, hp2, mo3, bb, cr⟩
          -- the pair's rooms
          have cases2 : ∃ (one other : Nat) (pa : Addr), x = .ref pa ∧ H' pa = some (.tup [iN one, iN other]) ∧ ((i2 = 0 ∧ one = lo ∧ other = hi) ∨ (i2 = 1 ∧ one = hi ∧ other = lo)) := by
            match i2, hx with
            | 0, hx => exact ⟨lo, hi, p1, (Option.some.inj hx).symm, hp1, .inl ⟨rfl, rfl, rfl⟩⟩
            | 1, hx => exact ⟨hi, lo, p2, (Option.some.inj hx).symm, hp2, .inr ⟨rfl, rfl, rfl⟩⟩
            | i2 + 2, hx => simp at hx
          obtain ⟨one, other, pa, rfl, hpa, which⟩ := cases2
          have hoth : one ∈ sides (lo, hi, sd) → oth (lo, hi, sd) one = other := fun h => by
            show lo + hi - one = other
            rcases which with ⟨_, e, e'⟩ | ⟨_, e, e'⟩ <;> omega
          refine ⟨pa, _, rfl, st_of hpa, rfl, _, _, rfl, _, _, rfl, rfl, ?_⟩
          obtain ⟨wa, hwa, evw⟩ := ev_wall (K := K) (σ := [some (.ref y), some (.ref l), some (.ref fo), some (.bl b3), some (iN q), some (iN lo), some (iN hi), some (iN sd), some (iN one), some (iN other)]) (ta := tVar 0) (tb := tC (.int 1)) (tc := tVar 4) (hy.ext eH') hqw (ev_var rfl) ev_c (ev_var rfl)
          have tst : EvT _ _ H' (decide (one ∈ f3) && (decide (other ∉ f3) && decide (one ∈ sides (lo, hi, sd)))) :=
            et_and (et_test (ev_inLn (K := K) (ta := tVar 8) (tb := tVar 2) (σ := [some (.ref y), some (.ref l), some (.ref fo), some (.bl b3), some (iN q), some (iN lo), some (iN hi), some (iN sd), some (iN one), some (iN other)]) (ev_var rfl) (ev_var rfl) hf3)) fun _ => et_and (et_test (ev_niLn (K := K) (ta := tVar 9) (tb := tVar 2) (ev_var rfl) (ev_var rfl) hf3)) fun _ =>
              et_test (ev_inTn (K := K) (ta := tVar 8) (ev_var rfl) (ep_c1 (sp := spSides) (ea_cons evw ea_nil) fun H5 e5 Q q => ⟨wa, _, rfl, e5 _ _ hwa, wok.2.2, q⟩))
          refine s_if tst (fun hb H5 e5 => ?_) (fun hb H5 e5 => ?_)
          · -- a new room
            rw [Bool.and_eq_true, Bool.and_eq_true, decide_eq_true_eq, decide_eq_true_eq, decide_eq_true_eq] at hb
            obtain ⟨h1, h2, h3⟩ := hb
            refine q_app (e5 _ _ hf3) (ev_var rfl) (ev_var rfl) (by have := mo3.fd.len yd.good; have := yd.rooms; rw [LN_len]; omega) fun H6 e6 => ?_
            refine s_asg ev_c fun H7 e7 => ?_
            have e57 : Ex H' (upd H6 fo (.lst (LN f3 ++ [iN other]))) → True := fun _ => trivial
            have nfo' : ∀ {b o}, H b = some o → b ≠ fo := fun h e => by rw [e, nfo] at h; cases h
            have eA : Ex H (upd H6 fo (.lst (LN f3 ++ [iN other]))) := Ex.mut ((eH'.trans e5).trans e6) nfo
            have keepT : ∀ {b : Addr} {ys : List V}, H' b = some (.tup ys) → (upd H6 fo (.lst (LN f3 ++ [iN other]))) b = some (.tup ys) := fun {b ys} h => by
              rw [upd_ne (ne_of h hf3 (by intro z; cases z))]
              exact e6 _ _ (e5 _ _ h)
            have fd' : Fd ws lot (f3 ++ [other]) := by
              have := mo3.fd.more hql hqw h3 h1 (by rw [hoth h3]; exact h2)
              rw [hoth h3] at this
              exact this
            refine ⟨f3 ++ [other], true, _, _, rfl, eA.trans e7, e7 _ _ (by rw [upd_same, LN_snoc]), e7 _ _ (keepT hp), e7 _ _ (keepT hp1), e7 _ _ (keepT hp2), ⟨fd', fun h => absurd h (by decide), fun _ => ?_⟩, fun h => absurd h (by decide), fun h => absurd h (by decide)⟩
            have := mo3.le
            rw [List.length_append, List.length_singleton]
            omega
          · -- nothing new
            have cr' : Crossed (lo, hi, sd) one other f3 := fun h3 h1 => by
              by_cases h2 : other ∈ f3
              · exact h2
              · rw [decide_eq_true h1, decide_eq_true h2, decide_eq_true h3] at hb
                exact absurd hb (by decide)
            refine ⟨f3, b3, _, _, rfl, eH'.trans e5, e5 _ _ hf3, e5 _ _ hp, e5 _ _ hp1, e5 _ _ hp2, mo3, bb, fun hb3 => ?_⟩
            obtain ⟨c1, c2⟩ := cr hb3
            rcases which with ⟨e, e', e''⟩ | ⟨e, e', e''⟩
            · subst e e' e''
              exact ⟨fun _ => cr', fun h => absurd h (by omega)⟩
            · subst e e' e''
              exact ⟨fun _ => c1 (by omega), fun _ => cr'⟩
        · rintro σ' H' ⟨f3, b3, o8, o9, rfl, eH', hf3, hp, hp1, hp2, mo3, bb, cr⟩
          refine ⟨f3, b3, _, _, _, _, _, _, rfl, eH', hf3, mo3, fun hb3 j hj q' wl' hj' hw' => ?_⟩
          have ef : f3 = f2 := by rw [mo3.same hb3, mo.same (bb hb3)]
          by_cases ej : j = i
          · subst ej
            rw [hq] at hj'
            cases hj'
            rw [hqw] at hw'
            cases hw'
            obtain ⟨c1, c2⟩ := cr hb3
            exact crossed_all (c1 (Nat.le_of_ble_eq_true rfl)) (c2 (Nat.le_of_ble_eq_true rfl))
          · rw [ef]
            exact pr (bb hb3) j (by omega) q' wl' hj' hw'
      · rintro σ' H' ⟨f2, b2, o4, o5, o6, o7, o8, o9, rfl, eH, hf2, mo, pr⟩
        refine ⟨f2, b2, _, _, _, _, _, _, rfl, eH, hf2, mo, fun hb q hq wl hw => ?_⟩
        obtain ⟨j, hj, e⟩ := List.getElem_of_mem hq
        exact pr hb j (by rw [LN_len]; exact hj) q wl (by rw [List.getElem?_eq_getElem hj, e]) hw
    · subst hb
      refine s_retL (el_sortL (ev_var rfl) (e2 _ _ hf) (by have := fd.len yd.good; have := yd.rooms; omega)) fun p H3 _ e3 h3 => ?_
      refine k (sortN found) p H3 ((e1.trans e2).trans e3) h3 fun r => ?_
      rw [(sortN_perm found).mem_iff]
      exact fd.all (cl rfl) r
end
end WL


set_option Elab.async false
set_option linter.all false
set_option maxRecDepth 100000
set_option maxHeartbeats 4000000
/-! Growths, walls that may come, lots. -/
namespace WL
open PySem PySem.Spec PyProof.Rows L2 Evl WM
theorem rdy_t {ws : List Wl} {lot : List Nat} {k : Nat} (h : Rdy ws lot k) : rdy ws lot k = true := by
  unfold rdy
  exact @decide_eq_true _ (Classical.propDecidable _) h
theorem rdy_f {ws : List Wl} {lot : List Nat} {k : Nat} (h : ¬ Rdy ws lot k) : rdy ws lot k = false := by
  unfold rdy
  exact @decide_eq_false _ (Classical.propDecidable _) h
section
variable {K : PySem.W.Frag} {σ : L2.St} {H : Hp} {te : TE} {D : Ends} {tz : TS}
theorem q_call {sp : Sp} {ta : TA} {vs : List V} {i : Nat} (h : EvA ta σ H vs) (hs : ∀ H1, Ex H H1 → sp (vs ++ []) H1 (fun v H2 => tz D (σ.set i (some v)) H2) L2.E0) : tSeq (tAsg (tCall sp [] L2.E0 ta) (gName i)) tz D σ H := h H (Ex.refl H) _ fun H1 e => hs H1 e
theorem q_exp {sp : Sp} {ta : TA} {vs : List V} {v : V} (h : EvA ta σ H vs) (hs : ∀ H1, Ex H H1 → ∀ Q : VK, RetV v H1 Q → sp vs H1 Q L2.E0) (k : ∀ H1, Ex H H1 → tz D σ H1) : tSeq (tDrop (tCall sp [] L2.E0 ta)) tz D σ H := q_drop (ev_c1 h hs) k
theorem el_is {xs ys : List V} (h : EvL te σ H xs) (e : xs = ys) : EvL te σ H ys := e ▸ h
theorem ep_is {xs ys : List V} (h : EvP te σ H xs) (e : xs = ys) : EvP te σ H ys := e ▸ h
theorem filter_yes {α : Type} (l : List α) : (l.filter fun _ => true) = l := by
  induction l with
  | nil => rfl
  | cons a l ih => rw [List.filter_cons, if_pos rfl, ih]
/-- any([room in rooms for room in sides]) -/
theorem ev_rdy {j iR : Nat} {vs : List Nat} {tl : TE} {p : Addr} {ws : List Wl} {lot R : List Nat} {k : Nat} {wl : Wl} (hk : ws[k]? = some wl) (hp : H p = some (.lst (LN R))) (hR : ∀ r, r ∈ R ↔ Reach ws lot r) (hl : EvP tl σ H (LN (sides wl)))
    (hw : ∀ x, wipe ((wipe σ vs).set j (some x)) vs = wipe σ vs) (hj : ∀ x, ((wipe σ vs).set j (some x))[j]? = some (some x)) (hr : ∀ x, ((wipe σ vs).set j (some x))[iR]? = some (some (.ref p))) :
    Ev (tCB (rAny K) (tCons (tLc (iTup K tl) (gName j) tYes (tOp (rIn K false) (tVar j) (tVar iR)) vs) tNil)) σ H (.bl (rdy ws lot k)) := by
  have z : (sides wl).length ≤ 40000 := by unfold sides; split <;> (try split) <;> simp
  have key := ev_any (K := K) (bs := (sides wl).map fun r => decide (r ∈ R)) (el_is (el_nat (K := K) (l := sides wl) (j := j) (vs := vs) (t := tYes) (te := tOp (rIn K false) (tVar j) (tVar iR)) (fun _ => true) (fun r => .bl (decide (r ∈ R))) hl z hw (fun _ _ _ _ => et_yes)
    (fun x _ _ H1 e1 => ev_inLn (ev_var (hj _)) (ev_var (hr _)) (e1 _ _ hp))) (by rw [filter_yes, List.map_map]; rfl))
  refine ev_is key ?_
  congr 1
  rw [List.any_map]
  by_cases h : Rdy ws lot k
  · rw [rdy_t h, List.any_eq_true]
    obtain ⟨w, hw', r, hr', pr⟩ := h
    rw [hk] at hw'
    cases hw'
    exact ⟨r, hr', decide_eq_true ((hR r).mpr pr)⟩
  · rw [rdy_f h, List.any_eq_false]
    intro r hr' e
    exact h ⟨wl, hk, r, hr', (hR r).mp (of_decide_eq_true e)⟩
end
/- 0 yard, 1 lot, 2 rooms, 3 room, 4 number -/
theorem sc_is_growth : FnScope ["yard", "lot", "rooms", "room", "number"] ["yard", "lot"] (tScope 19) := ⟨rfl, rfl, rfl, by decide +kernel, rfl, by decide +kernel, by decide +kernel⟩
def spGrowth : Sp := fun vs H Q _ => ∃ (y l : Addr) (n : Nat) (ws : List Wl) (lot : List Nat), vs = [.ref y, .ref l] ∧ Y H y n ws ∧ Yd n ws ∧ H l = some (.tup (LN lot)) ∧ lot.length ≤ 6 ∧ (∀ x ∈ lot, x < ws.length) ∧ RetV (.bl (growth ws lot)) H Q
/- 0 yard, 1 lot, 2 rooms, 3 some, 4 one, 5 room -/
theorem sc_can_come_of : FnScope ["yard", "lot", "rooms", "some", "one", "room"] ["yard", "lot"] (tScope 22) := ⟨rfl, rfl, rfl, by decide +kernel, rfl, by decide +kernel, by decide +kernel⟩
def spCome : Sp := fun vs H Q _ => ∃ (y l : Addr) (n : Nat) (ws : List Wl) (lot : List Nat), vs = [.ref y, .ref l] ∧ Y H y n ws ∧ Yd n ws ∧ H l = some (.tup (LN lot)) ∧ (∀ x ∈ lot, x < ws.length) ∧ RetU (LN (come ws lot)) H Q
section
variable {P : Program} {w : World} {K : PySem.W.Frag} {mg : Str → Option Value} {base : Heap}
theorem rest_len (ws : List Wl) (lot : List Nat) : (rest ws lot).length ≤ ws.length := by
  have := List.length_filter_le (fun x => decide (x ∉ lot)) (evy ws)
  unfold WM.rest
  unfold evy at this ⊢
  rw [List.length_range] at this
  exact this
theorem ok_is_growth (g_reached : Cal P w K mg base 2 "reached" spReached) (g_sides_of : Cal P w K mg base 1 "sides_of" spSides) (T : Tx K mg) (D : Df K mg "is_growth" 19) : Cal P w K mg base 3 "is_growth" spGrowth := by
  refine D.cal sc_is_growth (fun vs H Q E h => ?_) (fun _ _ _ _ _ _ us hl => match us, hl with | [_, _], _ => rfl) (fun f cdv A outer s H vs Q E hr h => ?_)
  · obtain ⟨y, l, n, ws, lot, rfl, _⟩ := h
    rfl
  · obtain ⟨y, l, n, ws, lot, rfl, hy, yd, hl, h6, hlot, k⟩ := h
    refine ⟨_, (pss_cons (ps_set (i := 2) sc_is_growth.nd rfl (by first | exact Or.inl rfl | exact Or.inr rfl) (pcall g_reached hr (by decide) rfl (pa_cons (pv 0) (pa_cons (pv 1) pa_nil))))
      (pss_one (ps_ret (pe_callB (k_all (K := K) rfl rfl) (by rfl) T.b_all (by decide +kernel) (pa_cons (pe_lc (own := [("number", 4)]) (g := gName 4) rfl sc_is_growth.nd (k_pt (K := K) rfl (pv 1)) (blkOk_by (by kernel_rfl)) (fun _ _ _ _ _ => pg_name (i := 4) sc_is_growth.nd rfl (by first | exact Or.inl rfl | exact Or.inr rfl)) (fun _ _ _ _ _ => pts_nil) (fun _ _ _ _ _ => (pe_callB (k_any (K := K) rfl rfl) (by rfl) T.b_any (by decide +kernel) (pa_cons (pe_lc (own := [("room", 3)]) (g := gName 3) rfl sc_is_growth.nd (k_pt (K := K) rfl (pcall g_sides_of hr (by decide) rfl (pa_cons (pe_ix (k_ixT (K := K) rfl) (pe_ix (k_ixT (K := K) rfl) (pv 0) pe_int (fun _ _ => rfl)) (pv 4) (fun _ _ => rfl)) pa_nil))) (blkOk_by (by kernel_rfl)) (fun _ _ _ _ _ => pg_name (i := 3) sc_is_growth.nd rfl (by first | exact Or.inl rfl | exact Or.inr rfl)) (fun _ _ _ _ _ => pts_nil) (fun _ _ _ _ _ => (pe_cmpR (k_in (K := K) rfl) (pv 3) (pv 2) (by with_unfolding_all rfl)))) pa_nil)))) pa_nil))))), ?_⟩
    refine q_call (ea_cons (ev_var rfl) (ea_cons (ev_var rfl) ea_nil)) fun H1 e1 => ⟨y, l, n, ws, lot, rfl, hy.ext e1, yd, e1 _ _ hl, hlot, fun R p H2 e2 hp hR => ?_⟩
    have e12 := e1.trans e2
    refine s_ret (ev_is (ev_all (bs := lot.map (rdy ws lot)) (el_is (el_nat (l := lot) (fun _ => true) (fun x => .bl (rdy ws lot x)) (ep_var rfl (e12 _ _ hl)) (by omega) (fun _ => rfl) (fun _ _ _ _ => et_yes) (fun x hx _ H3 e3 => ?_)) (by rw [filter_yes, List.map_map]; rfl))) (by unfold growth; rw [List.all_map]; rfl)) fun H3 e3 => k H3 (e12.trans e3)
    obtain ⟨wl, hw⟩ : ∃ wl, ws[x]? = some wl := ⟨_, List.getElem?_eq_getElem (hlot x hx)⟩
    obtain ⟨wa, hwa, ew⟩ := ev_wall (K := K) (σ := [some (.ref y), some (.ref l), some (.ref p), none, some (iN x)]) (ta := tVar 0) (tb := tC (.int 1)) (tc := tVar 4) ((hy.ext e12).ext e3) hw (ev_var rfl) ev_c (ev_var rfl)
    exact ev_rdy hw (e3 _ _ hp) hR (ep_c1 (sp := spSides) (ea_cons ew ea_nil) fun H4 e4 Q q => ⟨wa, wl, rfl, e4 _ _ hwa, (yd.ok hw).2.2, q⟩) (fun _ => rfl) (fun _ => rfl) (fun _ => rfl)
theorem ok_can_come_of (g_reached : Cal P w K mg base 2 "reached" spReached) (g_rest_of : Cal P w K mg base 2 "rest_of" spRest) (g_sides_of : Cal P w K mg base 1 "sides_of" spSides) (T : Tx K mg) (D : Df K mg "can_come_of" 22) : Cal P w K mg base 3 "can_come_of" spCome := by
  refine D.cal sc_can_come_of (fun vs H Q E h => ?_) (fun _ _ _ _ _ _ us hl => match us, hl with | [_, _], _ => rfl) (fun f cdv A outer s H vs Q E hr h => ?_)
  · obtain ⟨y, l, n, ws, lot, rfl, _⟩ := h
    rfl
  · obtain ⟨y, l, n, ws, lot, rfl, hy, yd, hl, hlot, k⟩ := h
    refine ⟨_, (pss_cons (ps_set (i := 2) sc_can_come_of.nd rfl (by first | exact Or.inl rfl | exact Or.inr rfl) (pcall g_reached hr (by decide) rfl (pa_cons (pv 0) (pa_cons (pv 1) pa_nil))))
      (pss_cons (ps_set (i := 3) sc_can_come_of.nd rfl (by first | exact Or.inl rfl | exact Or.inr rfl) (pcall g_rest_of hr (by decide) rfl (pa_cons (pv 0) (pa_cons (pv 1) pa_nil))))
      (pss_one (ps_ret (pe_callTy (k_tupOf (K := K) rfl) (by rfl) T.b_tuple (by decide +kernel) (pa_cons (pe_lc (own := [("one", 4)]) (g := gName 4) rfl sc_can_come_of.nd (k_pt (K := K) rfl (pv 3)) (blkOk_by (by kernel_rfl)) (fun _ _ _ _ _ => pg_name (i := 4) sc_can_come_of.nd rfl (by first | exact Or.inl rfl | exact Or.inr rfl)) (fun _ _ _ _ _ => pts_one (pt_val (pe_callB (k_any (K := K) rfl rfl) (by rfl) T.b_any (by decide +kernel) (pa_cons (pe_lc (own := [("room", 5)]) (g := gName 5) rfl sc_can_come_of.nd (k_pt (K := K) rfl (pcall g_sides_of hr (by decide) rfl (pa_cons (pe_ix (k_ixT (K := K) rfl) (pe_ix (k_ixT (K := K) rfl) (pv 0) pe_int (fun _ _ => rfl)) (pv 4) (fun _ _ => rfl)) pa_nil))) (blkOk_by (by kernel_rfl)) (fun _ _ _ _ _ => pg_name (i := 5) sc_can_come_of.nd rfl (by first | exact Or.inl rfl | exact Or.inr rfl)) (fun _ _ _ _ _ => pts_nil) (fun _ _ _ _ _ => (pe_cmpR (k_in (K := K) rfl) (pv 5) (pv 2) (by with_unfolding_all rfl)))) pa_nil)))) (fun _ _ _ _ _ => (pv 4))) pa_nil)))))), ?_⟩
    refine q_call (ea_cons (ev_var rfl) (ea_cons (ev_var rfl) ea_nil)) fun H1 e1 => ⟨y, l, n, ws, lot, rfl, hy.ext e1, yd, e1 _ _ hl, hlot, fun R p H2 e2 hp hR => ?_⟩
    have e12 := e1.trans e2
    refine q_call (ea_cons (ev_var rfl) (ea_cons (ev_var rfl) ea_nil)) fun H3 e3 => ⟨y, l, n, ws, lot, rfl, (hy.ext e12).ext e3, yd.few, e3 _ _ (e12 _ _ hl), fun r H4 e4 hr' => ?_⟩
    have e14 := e12.trans (e3.trans e4)
    have z := rest_len ws lot
    have := yd.few
    refine s_retP (EvP.of (eu_tupL (el_nat (l := rest ws lot) (rdy ws lot) iN (ep_var rfl hr') (by omega) (fun _ => rfl) (fun x hx H5 e5 => et_B ?_) (fun x hx _ H5 e5 => ev_var rfl)))) fun q H5 e5 h5 => k q H5 (e14.trans e5) h5
    obtain ⟨wl, hw⟩ : ∃ wl, ws[x]? = some wl := ⟨_, List.getElem?_eq_getElem (mem_rest.mp hx).1⟩
    obtain ⟨wa, hwa, ew⟩ := ev_wall (K := K) (σ := [some (.ref y), some (.ref l), some (.ref p), some (.ref r), some (iN x), none]) (ta := tVar 0) (tb := tC (.int 1)) (tc := tVar 4) ((hy.ext e14).ext e5) hw (ev_var rfl) ev_c (ev_var rfl)
    exact ev_rdy hw (e5 _ _ (e4 _ _ (e3 _ _ hp))) hR (ep_c1 (sp := spSides) (ea_cons ew ea_nil) fun H4 e4 Q q => ⟨wa, wl, rfl, e4 _ _ hwa, (yd.ok hw).2.2, q⟩) (fun _ => rfl) (fun _ => rfl) (fun _ => rfl)
end
end WL


set_option Elab.async false
set_option linter.all false
set_option maxRecDepth 100000
set_option maxHeartbeats 4000000
/-! The law's own walks: sides, rooms come to, growths. -/
namespace WL
open PySem PySem.Spec PyProof.Rows L2 Evl WM
section
variable {K : PySem.W.Frag} {σ : L2.St} {H : Hp} {ta tb te : TE} {D : Ends} {tz : TS} {tl th : TO}
/-- a tuple cut -/
theorem ep_slice {xs : List V} {lo hi : Option Int} (h : EvP te σ H xs) (h1 : EvO tl σ H lo) (h2 : EvO th σ H hi) : EvP (tSl (rSlA K) te tl th) σ H (cutV xs lo hi) := fun H1 e Q q =>
  h H1 e _ fun p H2 e2 hp => h1 H2 (e.trans e2) _ fun H3 e3 => h2 H3 ((e.trans e2).trans e3) _ fun H4 e4 => ⟨p, xs, rfl, st_of (e4 _ _ (e3 _ _ hp)), fun hw => by
    have : cutV xs lo hi = xs := by
      unfold cutV
      rw [hw.1, hw.2]
      simp
    rw [this] at q
    exact q p H4 ((e2.trans e3).trans e4) (e4 _ _ (e3 _ _ hp)), fun _ r hr => q r _ (((e2.trans e3).trans e4).trans (Ex.new hr)) upd_same⟩
theorem ev_neLL {a b : List Nat} (ha : EvL ta σ H (LN a)) (hb : EvL tb σ H (LN b)) : Ev (tOp (rNeD K) ta tb) σ H (.bl (!decide (a = b))) :=
  ev_opLL ha hb fun p q H1 hp hq _ => rv_val fun H2 e2 Q k => ⟨_, _, dp_L (e2 _ _ hp), dp_L (e2 _ _ hq), shaped_dL a, shaped_dL b, by
    show Q (.bl (!PyData.eqvAll (dN a) (dN b))) H2
    rw [eqv_dN]
    exact k⟩
theorem ev_eqLL {a b : List Nat} (ha : EvL ta σ H (LN a)) (hb : EvL tb σ H (LN b)) : Ev (tOp (rEqD K) ta tb) σ H (.bl (decide (a = b))) :=
  ev_opLL ha hb fun p q H1 hp hq _ => rv_val fun H2 e2 Q k => ⟨_, _, dp_L (e2 _ _ hp), dp_L (e2 _ _ hq), shaped_dL a, shaped_dL b, by
    show Q (.bl (PyData.eqvAll (dN a) (dN b))) H2
    rw [eqv_dN]
    exact k⟩
theorem el_none : EvL (tLst tNil) σ H (LN []) := fun H1 e Q q => ⟨Nat.zero_le _, fun p hp => q p _ hp (Ex.new hp) upd_same⟩
/-- [side for side in sides if side in rooms] -/
theorem el_rdy {j iR : Nat} {vs : List Nat} {tl : TE} {p : Addr} {R : List Nat} {wl : Wl} (hp : H p = some (.lst (LN R))) (hl : EvP tl σ H (LN (sides wl)))
    (hw : ∀ x, wipe ((wipe σ vs).set j (some x)) vs = wipe σ vs) (hj : ∀ x, ((wipe σ vs).set j (some x))[j]? = some (some x)) (hr : ∀ x, ((wipe σ vs).set j (some x))[iR]? = some (some (.ref p))) :
    EvL (tLc (iTup K tl) (gName j) (tTest (tOp (rIn K false) (tVar j) (tVar iR))) (tVar j) vs) σ H (LN ((sides wl).filter fun r => decide (r ∈ R))) := by
  have z : (sides wl).length ≤ 40000 := by unfold sides; split <;> (try split) <;> simp
  exact el_nat (K := K) (l := sides wl) (j := j) (vs := vs) (fun r => decide (r ∈ R)) iN hl z hw (fun x _ H1 e1 => et_test (ev_inLn (ev_var (hj _)) (ev_var (hr _)) (e1 _ _ hp)))
    (fun x _ _ H1 e1 => ev_var (hj _))
theorem rdy_eq {ws : List Wl} {lot R : List Nat} {k : Nat} {wl : Wl} (hk : ws[k]? = some wl) (hR : ∀ r, r ∈ R ↔ Reach ws lot r) : (!decide (((sides wl).filter fun r => decide (r ∈ R)) = [])) = rdy ws lot k := by
  by_cases h : Rdy ws lot k
  · rw [rdy_t h]
    obtain ⟨w, hw', r, hr', pr⟩ := h
    rw [hk] at hw'
    cases hw'
    have : ¬ ((sides wl).filter fun r => decide (r ∈ R)) = [] := fun e => by
      have m : r ∈ (sides wl).filter fun r => decide (r ∈ R) := List.mem_filter.mpr ⟨hr', decide_eq_true ((hR r).mpr pr)⟩
      rw [e] at m
      exact nomatch m
    rw [decide_eq_false this]
    rfl
  · rw [rdy_f h]
    have : ((sides wl).filter fun r => decide (r ∈ R)) = [] := List.filter_eq_nil_iff.mpr fun r hr' e => h ⟨wl, hk, r, hr', (hR r).mp (of_decide_eq_true e)⟩
    rw [decide_eq_true this]
    rfl
end
section
variable {K : PySem.W.Frag} {σ : L2.St} {H : Hp} {ta tb te : TE} {D : Ends} {tz : TS} {x z : V}
theorem ca2 {xs : List V} (h1 : Ev ta σ H x) (h2 : EvP tb σ H xs) {H1 : Hp} (e : Ex H H1) {Q : List V → Hp → Prop} (q : ∀ p H2, Ex H1 H2 → H2 p = some (.tup xs) → Q [x, .ref p] H2) : tCons ta (tCons tb tNil) σ H1 Q :=
  h1 H1 e _ fun H2 e2 => h2 H2 (e.trans e2) _ fun p H3 e3 hp => q p H3 (e2.trans e3) hp
theorem q_call2 {sp : Sp} {i : Nat} {xs : List V} (h1 : Ev ta σ H x) (h2 : EvP tb σ H xs) (hs : ∀ p H1, Ex H H1 → H1 p = some (.tup xs) → sp [x, .ref p] H1 (fun v H2 => tz D (σ.set i (some v)) H2) L2.E0) :
    tSeq (tAsg (tCall sp [] L2.E0 (tCons ta (tCons tb tNil))) (gName i)) tz D σ H :=
  h1 H (Ex.refl H) _ fun H2 e2 => h2 H2 e2 _ fun p H3 e3 hp => hs p H3 (e2.trans e3) hp
theorem ep_c2 {sp : Sp} {xs ys : List V} (h1 : Ev ta σ H x) (h2 : EvP tb σ H xs) (hs : ∀ p H1, Ex H H1 → H1 p = some (.tup xs) → ∀ Q : VK, RetU ys H1 Q → sp [x, .ref p] H1 Q L2.E0) : EvP (tCall sp [] L2.E0 (tCons ta (tCons tb tNil))) σ H ys := fun H1 e Q q =>
  ca2 h1 h2 e fun p H2 e2 hp => hs p H2 (e.trans e2) hp Q fun r H3 e3 h3 => q r H3 (e2.trans e3) h3
theorem ev_c2 {sp : Sp} {xs : List V} (h1 : Ev ta σ H x) (h2 : EvP tb σ H xs) (hs : ∀ p H1, Ex H H1 → H1 p = some (.tup xs) → ∀ Q : VK, RetV z H1 Q → sp [x, .ref p] H1 Q L2.E0) : Ev (tCall sp [] L2.E0 (tCons ta (tCons tb tNil))) σ H z := fun H1 e Q q =>
  ca2 h1 h2 e fun p H2 e2 hp => hs p H2 (e.trans e2) hp Q fun H3 e3 => q H3 (e2.trans e3)
theorem ev_lenP {xs : List V} (h : EvP te σ H xs) : Ev (tCB (rLenS K) (tCons te tNil)) σ H (.int (xs.length : Int)) := fun H1 e Q q =>
  h H1 e _ fun p H2 e2 hp => ⟨p, xs, rfl, Or.inr (st_of hp), q H2 e2⟩
end
/- 0 _law_shut -/
theorem sc_law_sides : FnScope ["_law_shut"] ["_law_shut"] (tScope 40) := ⟨rfl, rfl, rfl, by decide +kernel, rfl, by decide +kernel, by decide +kernel⟩
/- 0 _law_yard_here, 1 _law_lot, 2 _law_found, 3 _law_turn, 4 _law_number, 5 _law_shut, 6 _law_side, 7 _law_other -/
theorem sc_law_come : FnScope ["_law_yard_here", "_law_lot", "_law_found", "_law_turn", "_law_number", "_law_shut", "_law_side", "_law_other"] ["_law_yard_here", "_law_lot"] (tScope 41) := ⟨rfl, rfl, rfl, by decide +kernel, rfl, by decide +kernel, by decide +kernel⟩
/- 0 _law_yard_here, 1 _law_lot, 2 _law_rooms, 3 _law_one, 4 _law_side -/
theorem sc_law_heart : FnScope ["_law_yard_here", "_law_lot", "_law_rooms", "_law_one", "_law_side"] ["_law_yard_here", "_law_lot"] (tScope 44) := ⟨rfl, rfl, rfl, by decide +kernel, rfl, by decide +kernel, by decide +kernel⟩
/- 0 _law_yard_here -/
theorem sc_law_leaves : FnScope ["_law_yard_here"] ["_law_yard_here"] (tScope 45) := ⟨rfl, rfl, rfl, by decide +kernel, rfl, by decide +kernel, by decide +kernel⟩
/- 0 _law_yard_here, 1 _law_order, 2 _law_place, 3 _law_rooms, 4 _law_side -/
theorem sc_law_grows : FnScope ["_law_yard_here", "_law_order", "_law_place", "_law_rooms", "_law_side"] ["_law_yard_here", "_law_order"] (tScope 42) := ⟨rfl, rfl, rfl, by decide +kernel, rfl, by decide +kernel, by decide +kernel⟩
/-- rooms before a turn, rooms now -/
structure Tu (ws : List Wl) (lot f0 f : List Nat) : Prop where
  fd : Fd ws lot f
  sub : ∀ x ∈ f0, x ∈ f
def spHeart : Sp := fun vs H Q _ => ∃ (y l : Addr) (n : Nat) (ws : List Wl) (lot : List Nat), vs = [.ref y, .ref l] ∧ Y H y n ws ∧ Yd n ws ∧ H l = some (.tup (LN lot)) ∧ lot.length ≤ 6 ∧ (∀ x ∈ lot, x < ws.length) ∧ RetU (LN (lot.filter (rdy ws lot))) H Q
def spLeaves : Sp := fun vs H Q _ => ∃ (y : Addr) (n : Nat) (ws : List Wl), vs = [.ref y] ∧ Y H y n ws ∧ Yd n ws ∧ RetV (.bl (growth ws (evy ws))) H Q
noncomputable def grows (ws : List Wl) : List Nat → Bool
  | [] => true
  | k :: l => rdy ws l k && grows ws l
def spGrows : Sp := fun vs H Q _ => ∃ (y l : Addr) (n : Nat) (ws : List Wl) (lot : List Nat), vs = [.ref y, .ref l] ∧ Y H y n ws ∧ Yd n ws ∧ H l = some (.tup (LN lot)) ∧ lot.length ≤ 6 ∧ (∀ x ∈ lot, x < ws.length) ∧ RetV (.bl (grows ws lot)) H Q
theorem filter_len {α : Type} (p : α → Bool) (l : List α) : decide ((l.filter p).length = l.length) = l.all p := by
  by_cases h : l.all p = true
  · rw [h]
    exact decide_eq_true (by rw [List.filter_eq_self.mpr (fun a ha => List.all_eq_true.mp h a ha)])
  · rw [Bool.not_eq_true] at h
    rw [h]
    refine decide_eq_false fun e => ?_
    have := List.filter_eq_self.mp ((List.filter_sublist (p := p) (l := l)).eq_of_length e)
    rw [List.all_eq_true.mpr this] at h
    cases h
section
variable {P : Program} {w : World} {K : PySem.W.Frag} {mg : Str → Option Value} {base : Heap}
theorem ok_law_sides (D : Df K mg "_law_sides" 40) : Cal P w K mg base 1 "_law_sides" spSides := by
  refine D.cal sc_law_sides (fun vs H Q E h => ?_) (fun _ _ _ _ _ _ us hl => match us, hl with | [_], _ => rfl) (fun f cdv A outer s H vs Q E hr h => ?_)
  · obtain ⟨a, wl, rfl, _⟩ := h
    rfl
  · obtain ⟨a, ⟨lo, hi, sd⟩, rfl, ha, hs, k⟩ := h
    refine ⟨_, (pss_one (ps_ret (pe_ix (k_ixL (K := K) rfl) (pe_lst (pa_cons (pe_slice (k_sl (K := K) rfl) (pv 0) po_none (po_some pe_int)) (pa_cons (pe_slice (k_sl (K := K) rfl) (pv 0) (po_some pe_int) (po_some pe_int)) (pa_cons (pe_slice (k_sl (K := K) rfl) (pv 0) po_none (po_some pe_int)) pa_nil)))) (pe_ix (k_ixT (K := K) rfl) (pv 0) pe_int (fun _ _ => rfl)) (fun _ _ => rfl)))), ?_⟩
    refine s_retP (xs := LN (sides (lo, hi, sd))) (fun H2 e2 Q' q => ?_) k
    have pa : EvP (tVar 0) [some (.ref a)] H [iN lo, iN hi, iN sd] := ep_var rfl ha
    have o1 : EvO (tPart (tC (.int 1))) [some (.ref a)] H (some 1) := eo_some ev_c
    have o2 : EvO (tPart (tC (.int 2))) [some (.ref a)] H (some 2) := eo_some ev_c
    refine ep_slice (K := K) (tl := tNoPart) (th := tPart (tC (.int 1))) pa eo_none o1 H2 e2 _ fun p1 H3 e3 h1 => ep_slice (K := K) pa o1 o2 H3 (e2.trans e3) _ fun p2 H4 e4 h2 => ep_slice (K := K) (tl := tNoPart) pa eo_none o2 H4 ((e2.trans e3).trans e4) _ fun p3 H5 e5 h3 => ⟨(by decide : 3 ≤ sizeLine), fun l nl => ?_⟩
    have x4 := Ex.new (o := .lst [.ref p1, .ref p2, .ref p3]) nl
    have e25 := (e3.trans (e4.trans e5)).trans x4
    have hsd : sd = 0 ∨ sd = 1 ∨ sd = 2 := by
      have : sd ≤ 2 := hs
      omega
    rcases hsd with rfl | rfl | rfl
    · exact ev_ixT (ev_var rfl) ev_c ha (atI_nat (j := 2) rfl) _ (e2.trans e25) _ fun H6 e6 => ⟨l, _, _, .ref p1, rfl, rfl, sq_of (e6 _ _ upd_same), atI_nat (j := 0) rfl, q p1 _ (e25.trans e6) (e6 _ _ (x4 _ _ ((e4.trans e5) _ _ h1)))⟩
    · exact ev_ixT (ev_var rfl) ev_c ha (atI_nat (j := 2) rfl) _ (e2.trans e25) _ fun H6 e6 => ⟨l, _, _, .ref p2, rfl, rfl, sq_of (e6 _ _ upd_same), atI_nat (j := 1) rfl, q p2 _ (e25.trans e6) (e6 _ _ (x4 _ _ (e5 _ _ h2)))⟩
    · exact ev_ixT (ev_var rfl) ev_c ha (atI_nat (j := 2) rfl) _ (e2.trans e25) _ fun H6 e6 => ⟨l, _, _, .ref p3, rfl, rfl, sq_of (e6 _ _ upd_same), atI_nat (j := 2) rfl, q p3 _ (e25.trans e6) (e6 _ _ (x4 _ _ h3))⟩
theorem ok_law_come (g_law_sides : Cal P w K mg base 1 "_law_sides" spSides) (T : Tx K mg) (D : Df K mg "_law_come" 41) : Cal P w K mg base 2 "_law_come" spReached := by
  refine D.cal sc_law_come (fun vs H Q E h => ?_) (fun _ _ _ _ _ _ us hl => match us, hl with | [_, _], _ => rfl) (fun f cdv A outer s H vs Q E hr h => ?_)
  · obtain ⟨y, l, n, ws, lot, rfl, _⟩ := h
    rfl
  · obtain ⟨y, l, n, ws, lot, rfl, hy, yd, hl, hlot, k⟩ := h
    refine ⟨_, (pss_cons (ps_set (i := 2) sc_law_come.nd rfl (by first | exact Or.inl rfl | exact Or.inr rfl) (pe_lst (pa_cons pe_int pa_nil)))
      (pss_cons (ps_for PassesOwn.never rfl (pi_range1 (by rfl) T.b_range (pa_cons (pe_ix (k_ixT (K := K) rfl) (pv 0) pe_int (fun _ _ => rfl)) pa_nil)) (pg_name (i := 3) sc_law_come.nd rfl (by first | exact Or.inl rfl | exact Or.inr rfl))
        (pss_one (ps_for PassesOwn.never rfl (k_pt (K := K) rfl (pv 1)) (pg_name (i := 4) sc_law_come.nd rfl (by first | exact Or.inl rfl | exact Or.inr rfl))
          (pss_cons (ps_set (i := 5) sc_law_come.nd rfl (by first | exact Or.inl rfl | exact Or.inr rfl) (pe_ix (k_ixT (K := K) rfl) (pe_ix (k_ixT (K := K) rfl) (pv 0) pe_int (fun _ _ => rfl)) (pv 4) (fun _ _ => rfl)))
          (pss_one (ps_for PassesOwn.never rfl (k_pt (K := K) rfl (pcall g_law_sides hr (by decide) rfl (pa_cons (pv 5) pa_nil))) (pg_name (i := 6) sc_law_come.nd rfl (by first | exact Or.inl rfl | exact Or.inr rfl))
            (pss_cons (ps_set (i := 7) sc_law_come.nd rfl (by first | exact Or.inl rfl | exact Or.inr rfl) (pe_op op_sub (pe_op op_add (pe_ix (k_ixT (K := K) rfl) (pv 5) pe_int (fun _ _ => rfl)) (pe_ix (k_ixT (K := K) rfl) (pv 5) pe_int (fun _ _ => rfl))) (pv 6)))
            (pss_one (ps_if (PW.pt (pw_and (pt_cmpR (k_in (K := K) rfl) (pv 6) (pv 2) (by with_unfolding_all rfl)) (pw_and1 (pt_cmpR (k_nin (K := K) rfl) (pv 7) (pv 2) (by with_unfolding_all rfl))))) (pss_one (ps_expr (pe_bm PySem.F.plainAttrs_list PySem.F.slot_list_append PySem.F.type_list_append mt_append (pv 2) (pa_cons (pv 7) pa_nil)))) pss_nil)))))))))
      (pss_one (ps_ret (pe_callB (k_sortL (K := K) rfl) (by rfl) T.b_sorted (by decide +kernel) (pa_cons (pv 2) pa_nil)))))), ?_⟩
    refine ⟨Nat.le_trans (by decide : 1 ≤ 1) (by decide), fun fo nfo => ?_⟩
    have e0 : Ex H (upd H fo (.lst (LN [0]))) := Ex.new nfo
    have n9 := yd.rooms
    refine q_forR1 (n := (n : Int)) (ea_cons (ev_y0 (j := 0) (hy.ext e0) (ev_var rfl) ev_c) ea_nil) ⟨by omega, by omega⟩ (fun i σ H' => ∃ found o3 o4 o5 o6 o7, σ = [some (.ref y), some (.ref l), some (.ref fo), o3, o4, o5, o6, o7] ∧ Ex H H' ∧ H' fo = some (.lst (LN found)) ∧ Fd ws lot found ∧ ∀ r d, d ≤ i → Path ws lot r d → r ∈ found)
      (fun H1 e1 => ⟨[0], _, _, _, _, _, rfl, e0.trans e1, e1 _ _ upd_same, Fd.start ws lot, fun r d hd p => ?_⟩) ?_ ?_
    · cases p with
      | zero => simp
      | step p _ _ _ => omega
    · rintro i σ H1 hi ⟨f0, o3, o4, o5, o6, o7, rfl, e1, hf, fd, pr⟩
      refine s_forT (a := l) (xs := LN lot) (ev_var rfl) (st_of (e1 _ _ hl)) (fun j σ H' => ∃ f o3 o4 o5 o6 o7, σ = [some (.ref y), some (.ref l), some (.ref fo), o3, o4, o5, o6, o7] ∧ Ex H H' ∧ H' fo = some (.lst (LN f)) ∧ Tu ws lot f0 f ∧
          ∀ j', j' < j → ∀ (q : Nat) (wl : Wl), lot[j']? = some q → ws[q]? = some wl → ∀ r ∈ sides wl, r ∈ f0 → oth wl r ∈ f)
        (fun H2 e2 => ⟨f0, _, _, _, _, _, rfl, e1.trans e2, e2 _ _ hf, ⟨fd, fun _ h => h⟩, fun _ h => absurd h (Nat.not_lt_zero _)⟩)
        (fun j σ' H' _ p => by obtain ⟨_, _, _, _, _, _, _, e, _⟩ := p; exact st_of (e _ _ hl)) ?_ ?_
      · rintro j x σ' H2 hx ⟨f, o3, o4, o5, o6, o7, rfl, e2, hf2, tu, pj⟩
        obtain ⟨q, hq, rfl⟩ := get_LN hx
        have hql : q ∈ lot := List.mem_of_getElem? hq
        obtain ⟨wl, hqw⟩ : ∃ wl, ws[q]? = some wl := ⟨_, List.getElem?_eq_getElem (hlot q hql)⟩
        obtain ⟨lo, hi', sd⟩ := wl
        have wok : WOk n (lo, hi', sd) := yd.ok hqw
        show tSeq _ _ _ _ _
        obtain ⟨wa, hwa, ew⟩ := ev_wall (K := K) (σ := [some (.ref y), some (.ref l), some (.ref fo), o3, some (iN q), o5, o6, o7]) (ta := tVar 0) (tb := tC (.int 1)) (tc := tVar 4) (hy.ext e2) hqw (ev_var rfl) ev_c (ev_var rfl)
        refine q_asg ew fun H3 e3 => ?_
        have e13 := e2.trans e3
        refine s_forP (xs := LN (sides (lo, hi', sd))) (ep_c1 (sp := spSides) (ea_cons (ev_var rfl) ea_nil) fun H4 e4 Q q => ⟨wa, (lo, hi', sd), rfl, e4 _ _ (e3 _ _ hwa), wok.2.2, q⟩)
          (fun p i2 σ H' => ∃ f o6 o7, σ = [some (.ref y), some (.ref l), some (.ref fo), o3, some (iN q), some (.ref wa), o6, o7] ∧ Ex H H' ∧ H' fo = some (.lst (LN f)) ∧ H' p = some (.tup (LN (sides (lo, hi', sd)))) ∧ H' wa = some (.tup [iN lo, iN hi', iN sd]) ∧ Tu ws lot f0 f ∧
            (∀ j', j' < j → ∀ (q : Nat) (wl : Wl), lot[j']? = some q → ws[q]? = some wl → ∀ r ∈ sides wl, r ∈ f0 → oth wl r ∈ f) ∧ ∀ j', j' < i2 → ∀ r, (sides (lo, hi', sd))[j']? = some r → r ∈ f0 → oth (lo, hi', sd) r ∈ f)
          (fun p H4 e4 hp => ⟨f, _, _, rfl, e13.trans e4, e4 _ _ (e3 _ _ hf2), hp, e4 _ _ (e3 _ _ hwa), tu, pj, fun _ h => absurd h (Nat.not_lt_zero _)⟩)
          (fun p i2 σ' H' _ q => by obtain ⟨_, _, _, _, _, _, h, _⟩ := q; exact h) ?_ ?_
        · rintro p i2 x σ' H4 hx2 ⟨f, o6, o7, rfl, e4, hf4, hp, hwa4, tu, pj, ps⟩
          obtain ⟨r, hr2, rfl⟩ := get_LN hx2
          have hrs : r ∈ sides (lo, hi', sd) := List.mem_of_getElem? hr2
          have ho : (lo : Int) + (hi' : Int) - (r : Int) = ((oth (lo, hi', sd) r : Nat) : Int) := by
            show _ = ((lo + hi' - r : Nat) : Int)
            rcases oth_end hrs with ⟨e, _⟩ | ⟨e, _⟩
            · have e : r = lo := e
              omega
            · have e : r = hi' := e
              omega
          show tSeq _ _ _ _ _
          refine q_asg (v := iN (oth (lo, hi', sd) r)) (ev_is (ev_op (ev_op (ev_ixT (ev_var rfl) ev_c hwa4 (atI_nat (j := 0) rfl)) (ev_ixT (ev_var rfl) ev_c hwa4 (atI_nat (j := 1) rfl)) rv_I0) (ev_var rfl) rv_I0) (by rw [ho])) fun H5 e5 => ?_
          refine s_if (et_and (et_test (ev_inLn (ev_var rfl) (ev_var rfl) (e5 _ _ hf4))) fun _ => et_test (ev_niLn (ev_var rfl) (ev_var rfl) (e5 _ _ hf4))) (fun hb H6 e6 => ?_) (fun hb H6 e6 => ?_)
          · rw [Bool.and_eq_true, decide_eq_true_eq, decide_eq_true_eq] at hb
            obtain ⟨h1, h2⟩ := hb
            refine s_app (e6 _ _ (e5 _ _ hf4)) (ev_var rfl) (ev_var rfl) (by have := tu.fd.len yd.good; rw [LN_len]; omega) fun H7 e7 => ?_
            have e47 := (e5.trans e6).trans e7
            have keepT : ∀ {b : Addr} {ys : List V}, H4 b = some (.tup ys) → (upd H7 fo (.lst (LN f ++ [iN (oth (lo, hi', sd) r)]))) b = some (.tup ys) := fun {b ys} h => by
              rw [upd_ne (ne_of h hf4 (by intro z; cases z))]
              exact e47 _ _ h
            refine ⟨f ++ [oth (lo, hi', sd) r], _, _, rfl, Ex.mut (e4.trans e47) nfo, by rw [upd_same, LN_snoc], keepT hp, keepT hwa4, ⟨tu.fd.more hql hqw hrs h1 h2, fun x hx => List.mem_append_left _ (tu.sub x hx)⟩, fun j' hj' q' wl' a b r' c d => List.mem_append_left _ (pj j' hj' q' wl' a b r' c d), fun j' hj' r' a b => ?_⟩
            by_cases ej : j' = i2
            · subst ej
              rw [hr2] at a
              cases a
              simp
            · exact List.mem_append_left _ (ps j' (by omega) r' a b)
          · refine ⟨f, _, _, rfl, e4.trans (e5.trans e6), e6 _ _ (e5 _ _ hf4), e6 _ _ (e5 _ _ hp), e6 _ _ (e5 _ _ hwa4), tu, pj, fun j' hj' r' a b => ?_⟩
            by_cases ej : j' = i2
            · subst ej
              rw [hr2] at a
              cases a
              have h1 := tu.sub r b
              by_cases h2 : oth (lo, hi', sd) r ∈ f
              · exact h2
              · rw [decide_eq_true h1, decide_eq_true h2] at hb
                exact absurd hb (by decide)
            · exact ps j' (by omega) r' a b
        · rintro p σ' H4 ⟨f, o6, o7, rfl, e4, hf4, hp, hwa4, tu, pj, ps⟩
          refine ⟨f, _, _, _, _, _, rfl, e4, hf4, tu, fun j' hj' q' wl' a b r c d => ?_⟩
          by_cases ej : j' = j
          · subst ej
            rw [hq] at a
            cases a
            rw [hqw] at b
            cases b
            obtain ⟨m, hm, e⟩ := List.getElem_of_mem c
            exact ps m (by rw [LN_len]; exact hm) r (by rw [List.getElem?_eq_getElem hm, e]) d
          · exact pj j' (by omega) q' wl' a b r c d
      · rintro σ' H2 ⟨f, o3, o4, o5, o6, o7, rfl, e2, hf2, tu, pj⟩
        refine ⟨f, _, _, _, _, _, rfl, e2, hf2, tu.fd, fun r d hd p => ?_⟩
        cases p with
        | zero => exact tu.fd.out
        | @step r' d' q wl p hk hw hr' =>
          obtain ⟨m, hm, e⟩ := List.getElem_of_mem hk
          exact pj m (by rw [LN_len]; exact hm) q wl (by rw [List.getElem?_eq_getElem hm, e]) hw r' hr' (pr r' d' (by omega) p)
    · rintro σ' H1 ⟨f, o3, o4, o5, o6, o7, rfl, e1, hf, fd, pr⟩
      refine s_retL (el_sortL (ev_var rfl) hf (by have := fd.len yd.good; omega)) fun p H3 _ e3 h3 => ?_
      refine k (sortN f) p H3 (e1.trans e3) h3 fun r => ?_
      rw [(sortN_perm f).mem_iff]
      refine ⟨fd.come r, fun ⟨d, p⟩ => ?_⟩
      obtain ⟨e, _, me⟩ := MinD.of p
      exact pr r e (by have := me.lt yd.good; omega) me.1
theorem ok_law_heart (g_law_come : Cal P w K mg base 2 "_law_come" spReached) (g_law_sides : Cal P w K mg base 1 "_law_sides" spSides) (T : Tx K mg) (D : Df K mg "_law_heart" 44) : Cal P w K mg base 3 "_law_heart" spHeart := by
  refine D.cal sc_law_heart (fun vs H Q E h => ?_) (fun _ _ _ _ _ _ us hl => match us, hl with | [_, _], _ => rfl) (fun f cdv A outer s H vs Q E hr h => ?_)
  · obtain ⟨y, l, n, ws, lot, rfl, _⟩ := h
    rfl
  · obtain ⟨y, l, n, ws, lot, rfl, hy, yd, hl, h6, hlot, k⟩ := h
    have hr64 := hr.units
    refine ⟨_, (pss_cons (ps_set (i := 2) sc_law_heart.nd rfl (by first | exact Or.inl rfl | exact Or.inr rfl) (pcall g_law_come hr (by decide) rfl (pa_cons (pv 0) (pa_cons (pv 1) pa_nil))))
      (pss_one (ps_ret (pe_callTy (k_tupOf (K := K) rfl) (by rfl) T.b_tuple (by decide +kernel) (pa_cons (pe_lc (own := [("_law_one", 3)]) (g := gName 3) rfl sc_law_heart.nd (k_pt (K := K) rfl (pv 1)) (blkOk_by (by kernel_rfl)) (fun _ _ _ _ _ => pg_name (i := 3) sc_law_heart.nd rfl (by first | exact Or.inl rfl | exact Or.inr rfl)) (fun _ _ _ _ _ => pts_one (pt_cmpR (k_neD (K := K) rfl hr64) (pe_lc (own := [("_law_side", 4)]) (g := gName 4) rfl sc_law_heart.nd (k_pt (K := K) rfl (pcall g_law_sides hr (by decide) rfl (pa_cons (pe_ix (k_ixT (K := K) rfl) (pe_ix (k_ixT (K := K) rfl) (pv 0) pe_int (fun _ _ => rfl)) (pv 3) (fun _ _ => rfl)) pa_nil))) (blkOk_by (by kernel_rfl)) (fun _ _ _ _ _ => pg_name (i := 4) sc_law_heart.nd rfl (by first | exact Or.inl rfl | exact Or.inr rfl)) (fun _ _ _ _ _ => pts_one (pt_cmpR (k_in (K := K) rfl) (pv 4) (pv 2) (by with_unfolding_all rfl))) (fun _ _ _ _ _ => (pv 4))) (pe_lst pa_nil) (nomark _))) (fun _ _ _ _ _ => (pv 3))) pa_nil))))), ?_⟩
    refine q_call (ea_cons (ev_var rfl) (ea_cons (ev_var rfl) ea_nil)) fun H1 e1 => ⟨y, l, n, ws, lot, rfl, hy.ext e1, yd, e1 _ _ hl, hlot, fun R p H2 e2 hp hR => ?_⟩
    have e12 := e1.trans e2
    refine s_retP (EvP.of (eu_tupL (el_nat (l := lot) (rdy ws lot) iN (ep_var rfl (e12 _ _ hl)) (by omega) (fun _ => rfl) (fun x hx H3 e3 => ?_) (fun x hx _ H3 e3 => ev_var rfl)))) fun q H5 e5 h5 => k q H5 (e12.trans e5) h5
    obtain ⟨wl, hw⟩ : ∃ wl, ws[x]? = some wl := ⟨_, List.getElem?_eq_getElem (hlot x hx)⟩
    obtain ⟨wa, hwa, ew⟩ := ev_wall (K := K) (σ := [some (.ref y), some (.ref l), some (.ref p), some (iN x), none]) (ta := tVar 0) (tb := tC (.int 1)) (tc := tVar 3) ((hy.ext e12).ext e3) hw (ev_var rfl) ev_c (ev_var rfl)
    exact et_is (et_test (ev_neLL (el_rdy (e3 _ _ hp) (ep_c1 (sp := spSides) (ea_cons ew ea_nil) fun H4 e4 Q q => ⟨wa, wl, rfl, e4 _ _ hwa, (yd.ok hw).2.2, q⟩) (fun _ => rfl) (fun _ => rfl) (fun _ => rfl)) el_none)) (rdy_eq hw hR)
theorem ok_law_leaves (g_law_heart : Cal P w K mg base 3 "_law_heart" spHeart) (T : Tx K mg) (D : Df K mg "_law_leaves" 45) : Cal P w K mg base 4 "_law_leaves" spLeaves := by
  refine D.cal sc_law_leaves (fun vs H Q E h => ?_) (fun _ _ _ _ _ _ us hl => match us, hl with | [_], _ => rfl) (fun f cdv A outer s H vs Q E hr h => ?_)
  · obtain ⟨y, n, ws, rfl, _⟩ := h
    rfl
  · obtain ⟨y, n, ws, rfl, hy, yd, k⟩ := h
    refine ⟨_, (pss_one (ps_ret (pe_cmpR op_eq (pe_callB (k_len (K := K) rfl) (by rfl) T.b_len (by decide +kernel) (pa_cons (pcall g_law_heart hr (by decide) rfl (pa_cons (pv 0) (pa_cons (pe_tupRg rfl (by rfl) T.b_tuple (prg_1 (by rfl) T.b_range (pe_callB (k_len (K := K) rfl) (by rfl) T.b_len (by decide +kernel) (pa_cons (pe_ix (k_ixT (K := K) rfl) (pv 0) pe_int (fun _ _ => rfl)) pa_nil)))) pa_nil))) pa_nil)) (pe_callB (k_len (K := K) rfl) (by rfl) T.b_len (by decide +kernel) (pa_cons (pe_ix (k_ixT (K := K) rfl) (pv 0) pe_int (fun _ _ => rfl)) pa_nil)) (nomark _)))), ?_⟩
    have := yd.few
    have el : Ev (tCB (rLenS K) (tCons (tOp (rIxT K) (tVar 0) (tC (.int 1))) tNil)) [some (.ref y)] H (iN ws.length) := ev_ylen hy (ev_var rfl) ev_c
    have e : decide (iN (LN ((evy ws).filter (rdy ws (evy ws)))).length = iN ws.length) = growth ws (evy ws) := by
      unfold growth
      rw [← filter_len, LN_len]
      have : (evy ws).length = ws.length := by unfold evy; rw [List.length_range]
      rw [this]
      exact decide_eq_decide.mpr ⟨fun h => by injection h with h; omega, fun h => by rw [h]⟩
    rw [← e] at k
    refine s_ret (ev_op (ev_lenP (ep_c2 (sp := spHeart) (ys := LN ((evy ws).filter (rdy ws (evy ws)))) (ev_var rfl) (ep_rg el (by omega)) fun p H1 e1 hp Q q => ?_)) el (rv_eq rfl)) k
    exact ⟨y, p, n, ws, evy ws, rfl, hy.ext e1, yd, hp, by unfold evy; rw [List.length_range]; exact this, fun x hx => mem_evy.mp hx, q⟩
theorem grows_drop {ws : List Wl} : ∀ (l : List Nat), grows ws l = true ↔ ∀ i k, l[i]? = some k → rdy ws (l.drop (i + 1)) k = true
  | [] => by simp [grows]
  | k :: l => by
    unfold grows
    rw [Bool.and_eq_true, grows_drop l]
    constructor
    · rintro ⟨h1, h2⟩ i k' hi
      cases i with
      | zero =>
        have e : k = k' := by simpa using hi
        subst e
        simpa using h1
      | succ i => simpa using h2 i k' (by simpa using hi)
    · intro h
      exact ⟨by simpa using h 0 k (by simp), fun i k' hi => by simpa using h (i + 1) k' (by simpa using hi)⟩
theorem cut_tail (l : List Nat) (i : Nat) (hi : i ≤ l.length) : cutV (LN l) (some (i : Int)) none = LN (l.drop i) := by
  unfold cutV
  rw [HT.sIx_nat, HT.sIx_none, LN_len, Nat.min_eq_left hi, List.take_of_length_le (by rw [List.length_drop, LN_len]; exact Nat.le_refl _)]
  exact List.map_drop.symm
theorem ok_law_grows (g_law_come : Cal P w K mg base 2 "_law_come" spReached) (g_law_sides : Cal P w K mg base 1 "_law_sides" spSides) (T : Tx K mg) (D : Df K mg "_law_grows" 42) : Cal P w K mg base 3 "_law_grows" spGrows := by
  refine D.cal sc_law_grows (fun vs H Q E h => ?_) (fun _ _ _ _ _ _ us hl => match us, hl with | [_, _], _ => rfl) (fun f cdv A outer s H vs Q E hr h => ?_)
  · obtain ⟨y, l, n, ws, lot, rfl, _⟩ := h
    rfl
  · obtain ⟨y, l, n, ws, lot, rfl, hy, yd, hl, h6, hlot, k⟩ := h
    have hr64 := hr.units
    refine ⟨_, (pss_cons (ps_for PassesOwn.never rfl (pi_range1 (by rfl) T.b_range (pa_cons (pe_callB (k_len (K := K) rfl) (by rfl) T.b_len (by decide +kernel) (pa_cons (pv 1) pa_nil)) pa_nil)) (pg_name (i := 2) sc_law_grows.nd rfl (by first | exact Or.inl rfl | exact Or.inr rfl))
        (pss_cons (ps_set (i := 3) sc_law_grows.nd rfl (by first | exact Or.inl rfl | exact Or.inr rfl) (pcall g_law_come hr (by decide) rfl (pa_cons (pv 0) (pa_cons (pe_slice (k_sl (K := K) rfl) (pv 1) (po_some (pe_op op_add (pv 2) pe_int)) po_none) pa_nil))))
        (pss_one (ps_if (pt_cmpR (k_eqD (K := K) rfl hr64) (pe_lc (own := [("_law_side", 4)]) (g := gName 4) rfl sc_law_grows.nd (k_pt (K := K) rfl (pcall g_law_sides hr (by decide) rfl (pa_cons (pe_ix (k_ixT (K := K) rfl) (pe_ix (k_ixT (K := K) rfl) (pv 0) pe_int (fun _ _ => rfl)) (pe_ix (k_ixT (K := K) rfl) (pv 1) (pv 2) (fun _ _ => rfl)) (fun _ _ => rfl)) pa_nil))) (blkOk_by (by kernel_rfl)) (fun _ _ _ _ _ => pg_name (i := 4) sc_law_grows.nd rfl (by first | exact Or.inl rfl | exact Or.inr rfl)) (fun _ _ _ _ _ => pts_one (pt_cmpR (k_in (K := K) rfl) (pv 4) (pv 3) (by with_unfolding_all rfl))) (fun _ _ _ _ _ => (pv 4))) (pe_lst pa_nil) (nomark _)) (pss_one (ps_ret pe_bl)) pss_nil))))
      (pss_one (ps_ret pe_bl))), ?_⟩
    refine q_forR1 (n := (lot.length : Int)) (ea_cons (ev_is (ev_lenT (ev_var rfl) hl) (by rw [LN_len])) ea_nil) ⟨by omega, by omega⟩ (fun i σ H' => ∃ o2 o3 o4, σ = [some (.ref y), some (.ref l), o2, o3, o4] ∧ Ex H H' ∧ ∀ j k, j < i → lot[j]? = some k → rdy ws (lot.drop (j + 1)) k = true)
      (fun H1 e1 => ⟨_, _, _, rfl, e1, fun j k h => absurd h (Nat.not_lt_zero _)⟩) ?_ ?_
    · rintro i σ H1 hi ⟨o2, o3, o4, rfl, e1, pr⟩
      have hi' : i < lot.length := by omega
      obtain ⟨x, hx⟩ : ∃ x, lot[i]? = some x := ⟨_, List.getElem?_eq_getElem hi'⟩
      have hxl := List.mem_of_getElem? hx
      show tSeq _ _ _ _ _
      have pl : EvP (tSl (rSlA K) (tVar 1) (tPart (tOp (rI0 fun i j => .int (i + j)) (tVar 2) (tC (.int 1)))) tNoPart) [some (.ref y), some (.ref l), some (iN i), o3, o4] H1 (LN (lot.drop (i + 1))) := by
        refine ep_is (ep_slice (ep_var rfl (e1 _ _ hl)) (eo_some (ev_op (ev_var rfl) ev_c rv_I0)) eo_none) ?_
        exact cut_tail lot (i + 1) hi'
      refine q_call2 (x := .ref y) (ev_var rfl) pl fun p H3 e3 hp => ?_
      have e13 := e1.trans e3
      refine ⟨y, p, n, ws, lot.drop (i + 1), rfl, hy.ext e13, yd, hp, fun x hx => hlot x (List.mem_of_mem_drop hx), fun R q H4 e4 hq hR => ?_⟩
      have e14 := e13.trans e4
      obtain ⟨wl, hw⟩ : ∃ wl, ws[x]? = some wl := ⟨_, List.getElem?_eq_getElem (hlot x hxl)⟩
      obtain ⟨wa, hwa, ew⟩ := ev_wall (K := K) (σ := [some (.ref y), some (.ref l), some (iN i), some (.ref q), o4]) (ta := tVar 0) (tb := tC (.int 1)) (tc := tOp (rIxT K) (tVar 1) (tVar 2)) (hy.ext e14) hw (ev_var rfl) ev_c (ev_ixT (ev_var rfl) (ev_var rfl) (e14 _ _ hl) (atI_nat (LN_get hx)))
      refine s_when (et_is (et_test (ev_eqLL (el_rdy hq (ep_c1 (sp := spSides) (ea_cons ew ea_nil) fun H4 e4 Q q => ⟨wa, wl, rfl, e4 _ _ hwa, (yd.ok hw).2.2, q⟩) (fun _ => rfl) (fun _ => rfl) (fun _ => rfl)) el_none)) (b := !rdy ws (lot.drop (i + 1)) x) (by rw [← rdy_eq hw hR, Bool.not_not])) (fun hb H5 e5 => ?_) (fun hb H5 e5 => ?_)
      · refine s_ret (v := .bl (grows ws lot)) (ev_is ev_c ?_) fun H6 e6 => k H6 (e14.trans (e5.trans e6))
        have : ¬ grows ws lot = true := fun h => by
          rw [(grows_drop lot).mp h i x hx] at hb
          cases hb
        rw [Bool.not_eq_true] at this
        rw [this]
      · refine ⟨_, _, _, rfl, e14.trans e5, fun j m hj hm => ?_⟩
        by_cases ej : j = i
        · subst ej
          rw [hx] at hm
          cases hm
          rw [Bool.not_eq_false'] at hb
          exact hb
        · exact pr j m (by omega) hm
    · rintro σ H1 ⟨o2, o3, o4, rfl, e1, pr⟩
      refine s_ret (v := .bl (grows ws lot)) (ev_is ev_c ?_) fun H6 e6 => k H6 (e1.trans e6)
      rw [(grows_drop lot).mpr fun i m hm => pr i m (by have := (List.getElem?_eq_some_iff.mp hm).1; omega) hm]
end
end WL


set_option Elab.async false
set_option linter.all false
set_option maxRecDepth 100000
set_option maxHeartbeats 4000000
/-! Lists of lots: comprehensions that give tuples, over numbers, over lots, over a range from above. -/
namespace WL
open PySem PySem.Spec PyProof.Rows L2 Evl WM
theorem Lots.upd {H : Hp} {a : Addr} {ys zs : List V} {vs : List V} {ls : List (List Nat)} (ha : H a = some (.lst ys)) (h : Lots H vs ls) : Lots (upd H a (.lst zs)) vs ls :=
  L2.Paired.mapP h fun _ _ ⟨b, h1, h2⟩ => ⟨b, h1, by rw [upd_ne (ne_of h2 ha (by intro z; cases z))]; exact h2⟩
theorem Lots.none_ne {H : Hp} {vs : List V} {ls : List (List Nat)} (h : Lots H vs ls) : vs.length = ls.length := h.len
/-- a new list of lots -/
def EvLL (te : TE) (σ : L2.St) (H : Hp) (ls : List (List Nat)) : Prop := ∀ H1, Ex H H1 → ∀ Q : VK, (∀ p vs H2, H1 p = none → Ex H1 H2 → H2 p = some (.lst vs) → Lots H2 vs ls → Q (.ref p) H2) → te σ H1 Q
theorem EvLL.mono {te : TE} {σ : L2.St} {H H' : Hp} {ls : List (List Nat)} (e : Ex H H') (h : EvLL te σ H ls) : EvLL te σ H' ls := fun H1 a Q q => h H1 (e.trans a) Q q
def CwL (H : Hp) (f : Nat → Bool) (g : Nat → List Nat) (Dl : Addr) (i : Nat) (H' : Hp) : Prop := H Dl = none ∧ Ex H H' ∧ ∃ vs, H' Dl = some (.lst vs) ∧ Lots H' vs (((List.range i).filter f).map g)
section
variable {K : PySem.W.Frag} {σ σ2 : L2.St} {H H' : Hp} {ta tb te tl : TE} {t : TT} {D : Ends} {tz : TS} {x z v : V}
theorem rgL_len (i : Nat) (f : Nat → Bool) (g : Nat → List Nat) : (((List.range i).filter f).map g).length ≤ i := by
  have := List.length_filter_le f (List.range i)
  rw [List.length_range] at this
  rw [List.length_map]
  exact this
theorem cwL_turn {f : Nat → Bool} {g : Nat → List Nat} {Dl : Addr} {i : Nat} (p : CwL H f g Dl i H') (hi : i < 50000) (ht : EvT t σ2 H (f i)) (he : f i = true → EvP te σ2 H (LN (g i))) :
    t σ2 H' fun b H3 => if b = true then te σ2 H3 fun y H4 => ∃ acc, H4 Dl = some (.lst acc) ∧ acc.length < sizeLine ∧ CwL H f g Dl (i + 1) (L2.upd H4 Dl (.lst (acc ++ [y]))) else CwL H f g Dl (i + 1) H3 := by
  obtain ⟨p1, p2, vs, p3, p4⟩ := p
  refine ht H' p2 _ fun H3 e3 => ?_
  cases hf : f i with
  | true =>
    show te σ2 H3 fun y H4 => ∃ acc, H4 Dl = some (.lst acc) ∧ acc.length < sizeLine ∧ CwL H f g Dl (i + 1) (L2.upd H4 Dl (.lst (acc ++ [y])))
    refine he hf H3 (p2.trans e3) _ fun q H4 e4 hq => ⟨vs, e4 Dl _ (e3 Dl _ p3), sz_lt (by have := rgL_len i f g; rw [p4.len]; omega), p1, Ex.mut ((p2.trans e3).trans e4) p1, vs ++ [.ref q], upd_same, ?_⟩
    have h4 := (p4.ext (e3.trans e4)).snoc hq
    have := Lots.upd (zs := vs ++ [.ref q]) (e4 Dl _ (e3 Dl _ p3)) h4
    rw [List.range_succ, List.filter_append, List.map_append, List.filter_cons, if_pos hf]
    exact this
  | false =>
    show CwL H f g Dl (i + 1) H3
    refine ⟨p1, p2.trans e3, vs, e3 Dl _ p3, ?_⟩
    have h4 := p4.ext e3
    rw [List.range_succ, List.filter_append, List.map_append, List.filter_cons, if_neg (by rw [hf]; decide)]
    show Lots H3 vs (_ ++ [])
    rw [List.append_nil]
    exact h4
theorem range_list {α β : Type} (p : α → Bool) (g : α → β) (d : α) (l : List α) : ((List.range l.length).filter fun i => p (l.getD i d)).map (fun i => g (l.getD i d)) = (l.filter p).map g := by
  have key : ∀ (l : List α), ((List.range l.length).filter fun i => p (l.getD i d)).map (fun i => l.getD i d) = l.filter p := by
    intro l
    induction l with
    | nil => rfl
    | cons a l ih =>
      rw [List.length_cons, List.range_succ_eq_map, List.filter_cons, List.filter_map, List.filter_cons]
      have e : ((List.range l.length).filter ((fun i => p ((a :: l).getD i d)) ∘ Nat.succ)) = (List.range l.length).filter fun i => p (l.getD i d) := rfl
      rw [e]
      show List.map (fun i => (a :: l).getD i d) (if p a = true then _ else _) = if p a = true then a :: l.filter p else l.filter p
      by_cases h : p a = true
      · rw [if_pos h, if_pos h, List.map_cons, List.map_map, ← ih]
        rfl
      · rw [if_neg h, if_neg h, List.map_map, ← ih]
        rfl
  rw [← key l, List.map_map]
  rfl
theorem getD_of {α : Type} {l : List α} {i : Nat} {n d : α} (h : l[i]? = some n) : l.getD i d = n := by rw [List.getD_eq_getElem?_getD, h]; rfl
/-- over a tuple of numbers | a list of numbers | a list of lots -/
theorem ell_T {l : List Nat} {j : Nat} {vs : List Nat} (p : Nat → Bool) (g : Nat → List Nat) (h : EvP tl σ H (LN l)) (hz : l.length ≤ 40000) (hw : ∀ x, wipe ((wipe σ vs).set j (some x)) vs = wipe σ vs)
    (ht : ∀ x ∈ l, ∀ H1, Ex H H1 → EvT t ((wipe σ vs).set j (some (iN x))) H1 (p x)) (he : ∀ x ∈ l, p x = true → ∀ H1, Ex H H1 → EvP te ((wipe σ vs).set j (some (iN x))) H1 (LN (g x))) :
    EvLL (tLc (iTup K tl) (gName j) t te vs) σ H ((l.filter p).map g) := fun H0 e Q q => h H0 e _ fun a H1 e1 hx => ⟨a, rfl, ⟨LN l, st_of hx⟩, fun Dl hD =>
  lc_tup (xs := LN l) (CwL H1 (fun i => p (l.getD i 0)) (fun i => g (l.getD i 0)) Dl) ⟨hD, Ex.new hD, [], upd_same, .nil⟩ (fun i H' _ p => st_of (p.2.1 a _ hx)) (fun i x H' hi p => by
    obtain ⟨n, hn, rfl⟩ := get_LN hi
    have hm := List.mem_of_getElem? hn
    have e0 : l.getD i 0 = n := getD_of hn
    refine ⟨hw _, cwL_turn p (by have := (List.getElem?_eq_some_iff.mp hn).1; omega) ?_ fun hf => ?_⟩
    · rw [e0]
      exact ht n hm H1 (e.trans e1)
    · rw [e0] at hf ⊢
      exact he n hm hf H1 (e.trans e1))
    (fun H' p => by
      obtain ⟨p1, p2, vs', p3, p4⟩ := p
      rw [LN_len, range_list] at p4
      exact q Dl vs' H' (fresh_back e1 p1) (e1.trans p2) p3 p4)⟩
theorem ell_L {l : List Nat} {j : Nat} {vs : List Nat} {a : Addr} (p : Nat → Bool) (g : Nat → List Nat) (h : Ev tl σ H (.ref a)) (hx : H a = some (.lst (LN l))) (hz : l.length ≤ 40000) (hw : ∀ x, wipe ((wipe σ vs).set j (some x)) vs = wipe σ vs)
    (ht : ∀ x ∈ l, ∀ H1, Ex H H1 → EvT t ((wipe σ vs).set j (some (iN x))) H1 (p x)) (he : ∀ x ∈ l, p x = true → ∀ H1, Ex H H1 → EvP te ((wipe σ vs).set j (some (iN x))) H1 (LN (g x))) :
    EvLL (tLc (iList K tl) (gName j) t te vs) σ H ((l.filter p).map g) := fun H0 e Q q => h H0 e _ fun H1 e1 => ⟨a, rfl, ⟨LN l, sq_of (e1 _ _ (e _ _ hx))⟩, fun Dl hD =>
  lc_list (xs := LN l) (CwL H1 (fun i => p (l.getD i 0)) (fun i => g (l.getD i 0)) Dl) ⟨hD, Ex.new hD, [], upd_same, .nil⟩ (fun i H' _ p => sq_of (p.2.1 a _ (e1 _ _ (e _ _ hx)))) (fun i x H' hi p => by
    obtain ⟨n, hn, rfl⟩ := get_LN hi
    have hm := List.mem_of_getElem? hn
    have e0 : l.getD i 0 = n := getD_of hn
    refine ⟨hw _, cwL_turn p (by have := (List.getElem?_eq_some_iff.mp hn).1; omega) ?_ fun hf => ?_⟩
    · rw [e0]
      exact ht n hm H1 (e.trans e1)
    · rw [e0] at hf ⊢
      exact he n hm hf H1 (e.trans e1))
    (fun H' p => by
      obtain ⟨p1, p2, vs', p3, p4⟩ := p
      rw [LN_len, range_list] at p4
      exact q Dl vs' H' (fresh_back e1 p1) (e1.trans p2) p3 p4)⟩
theorem ell_LL {ls : List (List Nat)} {us : List V} {j : Nat} {vs : List Nat} {a : Addr} (p : List Nat → Bool) (g : List Nat → List Nat) (h : Ev tl σ H (.ref a)) (hx : H a = some (.lst us)) (hu : Lots H us ls) (hz : ls.length ≤ 40000) (hw : ∀ x, wipe ((wipe σ vs).set j (some x)) vs = wipe σ vs)
    (ht : ∀ l ∈ ls, ∀ b H1, Ex H H1 → H1 b = some (.tup (LN l)) → EvT t ((wipe σ vs).set j (some (.ref b))) H1 (p l)) (he : ∀ l ∈ ls, p l = true → ∀ b H1, Ex H H1 → H1 b = some (.tup (LN l)) → EvP te ((wipe σ vs).set j (some (.ref b))) H1 (LN (g l))) :
    EvLL (tLc (iList K tl) (gName j) t te vs) σ H ((ls.filter p).map g) := fun H0 e Q q => h H0 e _ fun H1 e1 => ⟨a, rfl, ⟨us, sq_of (e1 _ _ (e _ _ hx))⟩, fun Dl hD =>
  lc_list (xs := us) (CwL H1 (fun i => p (ls.getD i [])) (fun i => g (ls.getD i [])) Dl) ⟨hD, Ex.new hD, [], upd_same, .nil⟩ (fun i H' _ p => sq_of (p.2.1 a _ (e1 _ _ (e _ _ hx)))) (fun i x H' hi p => by
    obtain ⟨b, l, rfl, hn, hb⟩ := (hu.ext (e.trans e1)).get hi
    have hm := List.mem_of_getElem? hn
    have e0 : ls.getD i [] = l := getD_of hn
    refine ⟨hw _, cwL_turn p (by have := (List.getElem?_eq_some_iff.mp hn).1; omega) ?_ fun hf => ?_⟩
    · rw [e0]
      exact ht l hm b H1 (e.trans e1) hb
    · rw [e0] at hf ⊢
      exact he l hm hf b H1 (e.trans e1) hb)
    (fun H' p => by
      obtain ⟨p1, p2, vs', p3, p4⟩ := p
      rw [hu.len, range_list] at p4
      exact q Dl vs' H' (fresh_back e1 p1) (e1.trans p2) p3 p4)⟩
/-- over range(m, 0, -1) -/
theorem lc_rangeC {lo c : Int} {n : Nat} {g : TG} {tt : TT} {te : TE} {vs : List Nat} {H1 : Hp} {D : Addr} {Qd : Hp → Prop} (Pv : Nat → Hp → Prop) (h0 : Pv 0 (L2.upd H1 D (.lst [])))
    (hs : ∀ i H, i < n → Pv i H → g (.int (lo + (i : Nat) * c)) (wipe σ vs) H fun σ2 H2 => wipe σ2 vs = wipe σ vs ∧ tt σ2 H2 fun b H3 =>
      if b = true then te σ2 H3 fun y H4 => ∃ acc, H4 D = some (.lst acc) ∧ acc.length < sizeLine ∧ Pv (i + 1) (L2.upd H4 D (.lst (acc ++ [y]))) else Pv (i + 1) H3) (hd : ∀ H, Pv n H → Qd H) :
    ∃ W : Nat → Nat → Hp → Prop, (∃ m, W 0 m (L2.upd H1 D (.lst []))) ∧ ∀ i m H, W i m H →
      ((Itc lo c n).stop i H ∧ Qd H) ∨ ((Itc lo c n).go i H ∧ ∃ Nx : Hp → Prop, (∀ H', Nx H' → ∃ m', m' < m ∧ W (i + 1) m' H') ∧ ∀ x H', (Itc lo c n).yld i H x H' → g x (wipe σ vs) H' fun σ2 H2 => wipe σ2 vs = wipe σ vs ∧ tt σ2 H2 fun b H3 =>
        if b = true then te σ2 H3 fun y H4 => ∃ acc, H4 D = some (.lst acc) ∧ acc.length < sizeLine ∧ Nx (L2.upd H4 D (.lst (acc ++ [y]))) else Nx H3) := by
  refine ⟨fun i m H => m = n - i ∧ i ≤ n ∧ Pv i H, ⟨n, by simp, Nat.zero_le _, h0⟩, ?_⟩
  rintro i m H ⟨rfl, hi, p⟩
  by_cases hlt : i < n
  · refine .inr ⟨hlt, Pv (i + 1), fun H' p' => ⟨n - (i + 1), by omega, rfl, hlt, p'⟩, fun x H' y => ?_⟩
    obtain ⟨e, y⟩ := y
    subst e y
    exact hs i _ hlt p
  · have e : i = n := by omega
    subst e
    exact .inl ⟨Nat.le_refl _, hd H p⟩
theorem filter_yes' {α : Type} (l : List α) : (l.filter fun _ => true) = l := filter_yes l
theorem ell_R3 {m : Nat} {ta : TA} {j : Nat} {vs : List Nat} (g : Nat → List Nat) (h : EvA ta σ H [.int m, .int 0, .int (-1)]) (hz : m ≤ 1000) (hw : ∀ x, wipe ((wipe σ vs).set j (some x)) vs = wipe σ vs)
    (he : ∀ i, i < m → ∀ H1, Ex H H1 → EvP te ((wipe σ vs).set j (some (iN (m - i)))) H1 (LN (g i))) :
    EvLL (tLc (iRng3 ta) (gName j) tYes te vs) σ H ((List.range m).map g) := fun H0 e Q q => h H0 e _ fun H1 e1 => ⟨(m : Int), 0, -1, ((m : Int) - 0).toNat, rfl, RgC.neg (by omega) (by omega) (by decide) (by decide), fun Dl hD =>
  lc_rangeC (CwL H1 (fun _ => true) g Dl) ⟨hD, Ex.new hD, [], upd_same, .nil⟩ (fun i H' hi p => by
    have hi : i < m := by omega
    have e0 : (m : Int) + (i : Nat) * (-1 : Int) = ((m - i : Nat) : Int) := by omega
    show wipe ((wipe σ vs).set j (some (.int ((m : Int) + (i : Nat) * (-1 : Int))))) vs = wipe σ vs ∧ tYes ((wipe σ vs).set j (some (.int ((m : Int) + (i : Nat) * (-1 : Int))))) H' _
    rw [e0]
    exact ⟨hw _, cwL_turn p (by omega) et_yes fun _ => he i hi H1 (e.trans e1)⟩)
    (fun H' p => by
      obtain ⟨p1, p2, vs', p3, p4⟩ := p
      rw [filter_yes, show ((m : Int) - 0).toNat = m by omega] at p4
      exact q Dl vs' H' (fresh_back e1 p1) (e1.trans p2) p3 p4)⟩
/-- a list of lots to lists -/
theorem q_asgLL {i : Nat} {ls : List (List Nat)} (h : EvLL te σ H ls) (k : ∀ p vs H1, H p = none → Ex H H1 → H1 p = some (.lst vs) → Lots H1 vs ls → tz D (σ.set i (some (.ref p))) H1) : tSeq (tAsg te (gName i)) tz D σ H := h H (Ex.refl H) _ k
theorem s_asgLL {i : Nat} {ls : List (List Nat)} (h : EvLL te σ H ls) (k : ∀ p vs H1, H p = none → Ex H H1 → H1 p = some (.lst vs) → Lots H1 vs ls → D.nx (σ.set i (some (.ref p))) H1) : tAsg te (gName i) D σ H := h H (Ex.refl H) _ k
theorem s_extLL {l : Addr} {xs : List V} {ls ms : List (List Nat)} (hl : H l = some (.lst xs)) (hs : Lots H xs ls) (ha : Ev ta σ H (.ref l)) (h : EvLL te σ H ms) (hz : ls.length + ms.length ≤ 100000)
    (k : ∀ vs H1, Ex H H1 → Lots H1 vs ms → D.nx σ (L2.upd H1 l (.lst (xs ++ vs)))) : tDrop (tBM K "list" rExtend ta (tCons te tNil)) D σ H := ha H (Ex.refl H) _ fun H1 e1 =>
  ⟨Or.inl ⟨rfl, xs, sq_of (e1 l _ hl)⟩, h H1 e1 _ fun p vs H2 hp e2 h2 h3 => ⟨l, p, xs, vs, rfl, rfl, e2 l _ (e1 l _ hl), h2, by rw [hs.len, h3.len]; exact sz_of hz, k vs H2 (e1.trans e2) h3⟩⟩
/-- tuples of numbers compared -/
theorem ev_eqPP {a b : List Nat} (ha : EvP ta σ H (LN a)) (hb : EvP tb σ H (LN b)) : Ev (tOp (rEqD K) ta tb) σ H (.bl (decide (a = b))) := fun H1 e Q q =>
  ha H1 e _ fun p H2 e2 hp => hb H2 (e.trans e2) _ fun r H3 e3 hr => ⟨_, _, dp_T (e3 _ _ hp), dp_T hr, shaped_dT a, shaped_dT b, by
    show Q (.bl (PyData.eqvAll (dN a) (dN b))) H3
    rw [eqv_dN]
    exact q H3 (e2.trans e3)⟩
theorem ev_nePP {a b : List Nat} (ha : EvP ta σ H (LN a)) (hb : EvP tb σ H (LN b)) : Ev (tOp (rNeD K) ta tb) σ H (.bl (!decide (a = b))) := fun H1 e Q q =>
  ha H1 e _ fun p H2 e2 hp => hb H2 (e.trans e2) _ fun r H3 e3 hr => ⟨_, _, dp_T (e3 _ _ hp), dp_T hr, shaped_dT a, shaped_dT b, by
    show Q (.bl (!PyData.eqvAll (dN a) (dN b))) H3
    rw [eqv_dN]
    exact q H3 (e2.trans e3)⟩
theorem ep_nil : EvP (tTup tNil) σ H (LN []) := EvP.of (eu_tup ea_nil (Nat.zero_le _))
theorem ep_star {a : Addr} {l : List Nat} {n : Nat} (ha : Ev ta σ H (.ref a)) (hx : H a = some (.tup (LN l))) (hb : Ev tb σ H (iN n)) (hz : l.length ≤ 1000) : EvP (tTup (StX.tStar K ta (tCons tb tNil))) σ H (LN (l ++ [n])) := fun H1 e Q q =>
  ha H1 e _ fun H2 e2 => ⟨a, LN l, rfl, Or.inl (st_of (e2 _ _ (e _ _ hx))), hb H2 (e.trans e2) _ fun H3 e3 => ⟨by
    show (LN l ++ [iN n]).length ≤ sizeLine
    rw [List.length_append, LN_len]
    exact sz_of (by simp; omega), fun p hp => q p _ ((e2.trans e3).trans (Ex.new hp)) (by rw [upd_same, LN_snoc])⟩⟩
theorem k_star {X : Cx} {e : Expr} {es : List Expr} {te : TE} {t : TA} {p : Pos} (hK : X.K = K) (he : PE X e te) (hr : PA X es t) (hs : starEach (.Starred e p :: es) X.env = (true, eval e X.env) :: starEach es X.env := by rfl) : PA X (.Starred e p :: es) (StX.tStar K te t) := hK ▸ StX.pa_star he hr hs
/-- l[-1] -/
theorem ev_last {a : Addr} {l : List Nat} (ha : Ev ta σ H (.ref a)) (hx : H a = some (.tup (LN l))) (hl : l ≠ []) : Ev (tOp (rIxT K) ta (tUn (rU fun i => .int (-i)) (tC (.int 1)))) σ H (iN (l.getLastD 0)) := by
  refine ev_ixT ha (ev_un ev_c ru_neg) hx ?_
  obtain ⟨m, x, rfl⟩ : ∃ m x, l = m ++ [x] := ⟨l.dropLast, l.getLast hl, (List.dropLast_concat_getLast hl).symm⟩
  rw [LN_snoc]
  have : (m ++ [x]).getLastD 0 = x := by simp
  rw [this]
  exact atI_last (LN m) (iN x)
end
end WL


set_option Elab.async false
set_option linter.all false
set_option maxRecDepth 100000
set_option maxHeartbeats 4000000
/-! Lots of a size within a tuple. -/
namespace WL
open PySem PySem.Spec PyProof.Rows L2 Evl WM
def stepL (C l : List Nat) : List (List Nat) := (C.filter fun x => decide (l = []) || decide (l.getLastD 0 < x)).map fun x => l ++ [x]
def lw (C : List Nat) : Nat → List (List Nat)
  | 0 => [[]]
  | q + 1 => (lw C q).flatMap (stepL C)
theorem stepL_len (C l : List Nat) : (stepL C l).length ≤ C.length := by
  unfold stepL
  rw [List.length_map]
  exact List.length_filter_le _ _
theorem flat_len {C : List Nat} (ls : List (List Nat)) : (ls.flatMap (stepL C)).length ≤ ls.length * C.length := by
  induction ls with
  | nil => simp
  | cons l ls ih =>
    rw [List.flatMap_cons, List.length_append, List.length_cons, Nat.add_mul]
    have := stepL_len C l
    omega
theorem lw_len (C : List Nat) (h : C.length ≤ 6) : ∀ q, (lw C q).length ≤ 6 ^ q
  | 0 => by simp [lw]
  | q + 1 => by
    have h1 := flat_len (C := C) (lw C q)
    have h2 := lw_len C h q
    show ((lw C q).flatMap (stepL C)).length ≤ 6 ^ (q + 1)
    rw [Nat.pow_succ]
    exact Nat.le_trans h1 (Nat.mul_le_mul h2 h)
theorem ris_last {l : List Nat} {x : Nat} (h : WM.Ris l) (hl : l = [] ∨ l.getLastD 0 < x) : ∀ y ∈ l, y < x := by
  intro y hy
  rcases hl with e | hl
  · rw [e] at hy
    exact nomatch hy
  · have hne : l ≠ [] := fun e => by rw [e] at hy; exact nomatch hy
    obtain ⟨m, z, rfl⟩ : ∃ m z, l = m ++ [z] := ⟨l.dropLast, l.getLast hne, (List.dropLast_concat_getLast hne).symm⟩
    have hl : z < x := by simpa using hl
    rcases List.mem_append.mp hy with q | q
    · have := (List.pairwise_append.mp h).2.2 y q z (by simp)
      omega
    · rw [List.mem_singleton.mp q]
      exact hl
theorem mem_lw {C : List Nat} : ∀ (q : Nat) (l : List Nat), l ∈ lw C q ↔ WM.Ris l ∧ (∀ x ∈ l, x ∈ C) ∧ l.length = q
  | 0, l => by
    show l ∈ [[]] ↔ _
    rw [List.mem_singleton]
    constructor
    · rintro rfl
      exact ⟨.nil, fun x h => (nomatch h), rfl⟩
    · rintro ⟨_, _, h⟩
      exact List.eq_nil_of_length_eq_zero h
  | q + 1, l => by
    show l ∈ (lw C q).flatMap (stepL C) ↔ _
    rw [List.mem_flatMap]
    constructor
    · rintro ⟨m, hm, hl⟩
      obtain ⟨h1, h2, h3⟩ := (mem_lw q m).mp hm
      obtain ⟨x, hx, rfl⟩ := List.mem_map.mp hl
      obtain ⟨hxC, hx2⟩ := List.mem_filter.mp hx
      rw [Bool.or_eq_true, decide_eq_true_eq, decide_eq_true_eq] at hx2
      refine ⟨List.pairwise_append.mpr ⟨h1, by simp, fun a ha b hb => ?_⟩, fun y hy => ?_, by simp [h3]⟩
      · rw [List.mem_singleton.mp hb]
        exact ris_last h1 hx2 a ha
      · rcases List.mem_append.mp hy with k | k
        · exact h2 y k
        · rw [List.mem_singleton.mp k]
          exact hxC
    · rintro ⟨h1, h2, h3⟩
      have hne : l ≠ [] := fun e => by rw [e] at h3; cases h3
      obtain ⟨m, z, rfl⟩ : ∃ m z, l = m ++ [z] := ⟨l.dropLast, l.getLast hne, (List.dropLast_concat_getLast hne).symm⟩
      have hp := List.pairwise_append.mp h1
      refine ⟨m, (mem_lw q m).mpr ⟨hp.1, fun x hx => h2 x (List.mem_append_left _ hx), by simpa using h3⟩, List.mem_map.mpr ⟨z, List.mem_filter.mpr ⟨h2 z (by simp), ?_⟩, rfl⟩⟩
      rw [Bool.or_eq_true, decide_eq_true_eq, decide_eq_true_eq]
      by_cases e : m = []
      · exact Or.inl e
      · right
        obtain ⟨m', z', rfl⟩ : ∃ m' z', m = m' ++ [z'] := ⟨m.dropLast, m.getLast e, (List.dropLast_concat_getLast e).symm⟩
        have := hp.2.2 z' (by simp) z (by simp)
        simpa using this
/- 0 some, 1 many, 2 found, 3 turn, 4 later, 5 lot, 6 one -/
theorem sc_lots_within : FnScope ["some", "many", "found", "turn", "later", "lot", "one"] ["some", "many"] (tScope 29) := ⟨rfl, rfl, rfl, by decide +kernel, rfl, by decide +kernel, by decide +kernel⟩
def spLots : Sp := fun vs H Q _ => ∃ (l : Addr) (C : List Nat) (q : Nat), vs = [.ref l, iN q] ∧ H l = some (.tup (LN C)) ∧ C.length ≤ 6 ∧ q ≤ 6 ∧ ∀ p us H2, Ex H H2 → H2 p = some (.lst us) → Lots H2 us (lw C q) → Q (.ref p) H2
section
variable {P : Program} {w : World} {K : PySem.W.Frag} {mg : Str → Option Value} {base : Heap}
theorem ok_lots_within (T : Tx K mg) (D : Df K mg "lots_within" 29) : Cal P w K mg base 1 "lots_within" spLots := by
  refine D.cal sc_lots_within (fun vs H Q E h => ?_) (fun _ _ _ _ _ _ us hl => match us, hl with | [_, _], _ => rfl) (fun f cdv A outer s H vs Q E hr h => ?_)
  · obtain ⟨l, C, q, rfl, _⟩ := h
    rfl
  · obtain ⟨l, C, q, rfl, hl, h6, hq, k⟩ := h
    have hr64 := hr.units
    refine ⟨_, (pss_cons (ps_set (i := 2) sc_lots_within.nd rfl (by first | exact Or.inl rfl | exact Or.inr rfl) (pe_lst (pa_cons (pe_tup pa_nil) pa_nil)))
      (pss_cons (ps_for PassesOwn.never rfl (pi_range1 (by rfl) T.b_range (pa_cons (pv 1) pa_nil)) (pg_name (i := 3) sc_lots_within.nd rfl (by first | exact Or.inl rfl | exact Or.inr rfl))
        (pss_cons (ps_set (i := 4) sc_lots_within.nd rfl (by first | exact Or.inl rfl | exact Or.inr rfl) (pe_lst pa_nil))
        (pss_cons (ps_for PassesOwn.never rfl (k_pl (K := K) rfl (pv 2)) (pg_name (i := 5) sc_lots_within.nd rfl (by first | exact Or.inl rfl | exact Or.inr rfl))
          (pss_one (ps_expr (pe_bm PySem.F.plainAttrs_list PySem.F.slot_list_extend PySem.F.type_list_extend mt_extend (pv 4) (pa_cons (pe_lc (own := [("one", 6)]) (g := gName 6) rfl sc_lots_within.nd (k_pt (K := K) rfl (pv 0)) (blkOk_by (by kernel_rfl)) (fun _ _ _ _ _ => pg_name (i := 6) sc_lots_within.nd rfl (by first | exact Or.inl rfl | exact Or.inr rfl)) (fun _ _ _ _ _ => pts_one (PW.pt (pw_or (pt_cmpR (k_eqD (K := K) rfl hr64) (pv 5) (pe_tup pa_nil) (nomark _)) (pw_or1 (pt_cmpR op_gt (pv 6) (pe_ix (k_ixT (K := K) rfl) (pv 5) (pe_un un_neg pe_int) (fun _ _ => rfl)) (nomark _)))))) (fun _ _ _ _ _ => (pe_tup (k_star (K := K) rfl (pv 5) (pa_cons (pv 6) pa_nil))))) pa_nil)))))
        (pss_one (ps_set (i := 2) sc_lots_within.nd rfl (by first | exact Or.inl rfl | exact Or.inr rfl) (pv 4))))))
      (pss_one (ps_ret (pv 2))))), ?_⟩
    refine ⟨Nat.zero_le _, fun p0 n0 => ⟨(by decide : 1 ≤ sizeLine), fun fo nfo => ?_⟩⟩
    have e0 := (Ex.new (o := .tup []) n0).trans (Ex.new (o := .lst [.ref p0]) nfo)
    refine q_forR1 (n := (q : Int)) (ea_cons (ev_var rfl) ea_nil) ⟨by omega, by omega⟩ (fun i σ H' => ∃ fo us o3 o4 o5 o6, σ = [some (.ref l), some (iN q), some (.ref fo), o3, o4, o5, o6] ∧ Ex H H' ∧ H' fo = some (.lst us) ∧ Lots H' us (lw C i))
      (fun H1 e1 => ⟨fo, [.ref p0], _, _, _, _, rfl, e0.trans e1, e1 _ _ upd_same, .cons ⟨p0, rfl, e1 _ _ ((Ex.new (o := .lst [.ref p0]) nfo) _ _ upd_same)⟩ .nil⟩) ?_ ?_
    · rintro i σ H1 hi ⟨fo, us, o3, o4, o5, o6, rfl, e1, hf, hu⟩
      have hi' : i < q := by omega
      show tSeq _ _ _ _ _
      refine q_asgL el_none fun la H2 nla e2 hla => ?_
      have e12 := e1.trans e2
      have p6 : 6 ^ (i + 1) ≤ 6 ^ 6 := Nat.pow_le_pow_right (by decide) (by omega)
      have w6 := lw_len C h6 i
      refine q_forLn (a := fo) (xs := us) (ev_var rfl) (sq_of (e2 _ _ hf)) (fun j σ H' => ∃ xs o5 o6, σ = [some (.ref l), some (iN q), some (.ref fo), some (iN i), some (.ref la), o5, o6] ∧ Ex H1 H' ∧ H' la = some (.lst xs) ∧ Lots H' xs (((lw C i).take j).flatMap (stepL C)))
        (fun H3 e3 => ⟨[], _, _, rfl, e2.trans e3, e3 _ _ hla, .nil⟩) (fun j σ' H' _ p => by obtain ⟨_, _, _, _, e, _⟩ := p; exact sq_of (e _ _ hf)) ?_ ?_
      · rintro j x σ' H3 hx ⟨xs, o5, o6, rfl, e3, hla3, hls⟩
        obtain ⟨b, m, rfl, hm, hb⟩ := (hu.ext e3).get hx
        have hmw := List.mem_of_getElem? hm
        have mlen := ((mem_lw i m).mp hmw).2.2
        have hjl := (List.getElem?_eq_some_iff.mp hm).1
        show tDrop _ _ _ _
        refine s_extLL (ms := stepL C m) hla3 hls (ev_var rfl) (ell_T (l := C) (fun x => decide (m = []) || decide (m.getLastD 0 < x)) (fun x => m ++ [x]) (ep_var rfl ((e1.trans e3) _ _ hl)) (by omega) (fun _ => rfl) (fun x _ H4 e4 => ?_) (fun x _ _ H4 e4 => ep_star (ev_var rfl) (e4 _ _ hb) (ev_var rfl) (by omega))) ?_ fun vs H4 e4 h4 => ?_
        · refine et_or (et_test (ev_eqPP (ep_var rfl (e4 _ _ hb)) ep_nil)) fun hm0 => et_is (et_test (ev_op (ev_var rfl) (ev_last (ev_var rfl) (e4 _ _ hb) (of_decide_eq_false hm0)) rv_I0)) ?_
          exact decide_eq_decide.mpr ⟨fun h => by omega, fun h => by omega⟩
        · have a1 := flat_len (C := C) ((lw C i).take j)
          have a2 : ((lw C i).take j).length ≤ j := List.length_take_le _ _
          have a3 := stepL_len C m
          have a4 : ((lw C i).take j).length * C.length ≤ j * 6 := Nat.mul_le_mul a2 h6
          have : 6 ^ 6 = 46656 := by decide
          have : 6 ^ i * 6 ≤ 46656 := by rw [Nat.pow_succ] at p6; omega
          omega
        · refine ⟨xs ++ vs, _, _, rfl, Ex.mut (e3.trans e4) nla, upd_same, ?_⟩
          have hh := ((hls.ext e4).app h4)
          have := Lots.upd (zs := xs ++ vs) (e4 _ _ hla3) hh
          rw [List.take_add_one, hm, List.flatMap_append]
          simpa using this
      · rintro σ' H3 ⟨xs, o5, o6, rfl, e3, hla3, hls⟩
        refine s_asg (ev_var rfl) fun H4 e4 => ⟨la, xs, _, _, _, _, rfl, (e1.trans e3).trans e4, e4 _ _ hla3, ?_⟩
        rw [hu.len, List.take_length] at hls
        exact hls.ext e4
    · rintro σ' H1 ⟨fo, us, o3, o4, o5, o6, rfl, e1, hf, hu⟩
      refine s_ret (ev_var rfl) fun H2 e2 => k fo us H2 (e1.trans e2) (e2 _ _ hf) ?_
      exact hu.ext e2
end
end WL


set_option Elab.async false
set_option linter.all false
set_option maxRecDepth 100000
set_option maxHeartbeats 4000000
/-! The fewest days. -/
namespace WL
open PySem PySem.Spec PyProof.Rows L2 Evl WM
/-! ### a heap without an address -/
def hide (H : Hp) (a : Addr) : Hp := fun b => if b = a then none else H b
theorem hide_ex {H : Hp} {a : Addr} : Ex (hide H a) H := fun b o h => by
  unfold hide at h
  split at h
  · cases h
  · exact h
theorem hide_none {H : Hp} {a : Addr} : hide H a a = none := by
  unfold hide
  rw [if_pos rfl]
theorem hide_get {H : Hp} {a b : Addr} {o : HO} (h : H b = some o) (ne : b ≠ a) : hide H a b = some o := by
  unfold hide
  rw [if_neg ne]
  exact h
theorem hide_of {H0 H : Hp} {a : Addr} (e : Ex H0 H) (h : H0 a = none) : Ex H0 (hide H a) := fun b o hb => hide_get (e b o hb) (fun z => by rw [z, h] at hb; cases hb)
theorem hide_tup {H : Hp} {a b : Addr} {xs : List V} {o : HO} (ha : H a = some o) (no : ∀ ys, o ≠ .tup ys) (h : H b = some (.tup xs)) : hide H a b = some (.tup xs) := hide_get h (fun z => by
  rw [z, ha] at h
  exact no xs (by injection h))
theorem hide_lots {H : Hp} {a : Addr} {o : HO} {vs : List V} {ls : List (List Nat)} (ha : H a = some o) (no : ∀ ys, o ≠ .tup ys) (h : Lots H vs ls) : Lots (hide H a) vs ls :=
  L2.Paired.mapP h fun _ _ ⟨b, h1, h2⟩ => ⟨b, h1, hide_tup ha no h2⟩
/-! ### lots as keys -/
def kl (l : List Nat) : List Key := l.map fun (n : Nat) => (Sum.inl (n : Int) : Key)
theorem kl_V (l : List Nat) : (kl l).map kV = LN l := by
  unfold kl
  rw [List.map_map]
  rfl
theorem kl_inj {a b : List Nat} (h : kl a = kl b) : a = b := LN_inj (by rw [← kl_V, ← kl_V, h])
def dT (ls : List (List Nat)) : List (List Key × V) := ls.map fun l => (kl l, V.bl true)
theorem valV_dT (ls : List (List Nat)) (l : List Nat) : (valV (dT ls) (kl l)).isSome = decide (l ∈ ls) := by
  rw [← valV_any]
  unfold dT
  rw [List.any_map]
  by_cases h : l ∈ ls
  · rw [decide_eq_true h, List.any_eq_true]
    exact ⟨l, h, decide_eq_true rfl⟩
  · rw [decide_eq_false h, List.any_eq_false]
    intro m hm e
    exact h (kl_inj (of_decide_eq_true e) ▸ hm)
def putL (ls : List (List Nat)) (l : List Nat) : List (List Nat) := if l ∈ ls then ls else ls ++ [l]
theorem putK_dT (ls : List (List Nat)) (l : List Nat) : putK (dT ls) (kl l) (V.bl true) = dT (putL ls l) := by
  unfold putK putL
  rw [valV_any, valV_dT]
  by_cases h : l ∈ ls
  · rw [decide_eq_true h, if_pos rfl, if_pos h]
    unfold dT
    rw [List.map_map]
    refine List.map_congr_left fun m _ => ?_
    show (if kl m = kl l then (kl m, V.bl true) else (kl m, V.bl true)) = _
    split <;> rfl
  · rw [decide_eq_false h, if_neg (by decide), if_neg h]
    unfold dT
    rw [List.map_append]
    rfl
theorem mem_putL {ls : List (List Nat)} {l x : List Nat} : x ∈ putL ls l ↔ x ∈ ls ∨ x = l := by
  unfold putL
  split
  · constructor
    · exact Or.inl
    · rintro (h | rfl)
      · exact h
      · assumption
  · rw [List.mem_append, List.mem_singleton]
theorem nodup_putL {ls : List (List Nat)} {l : List Nat} (h : ls.Nodup) : (putL ls l).Nodup := by
  unfold putL
  split
  · exact h
  · rename_i hn
    rw [List.nodup_append]
    exact ⟨h, by simp, fun a ha b hb e => hn (by rw [← List.mem_singleton.mp hb, ← e]; exact ha)⟩
theorem dT_len (ls : List (List Nat)) : (dT ls).length = ls.length := List.length_map ..
theorem dT_get {ls : List (List Nat)} {i : Nat} {k : List Key} {v : V} (h : (dT ls)[i]? = some (k, v)) : ∃ l, ls[i]? = some l ∧ k = kl l := by
  unfold dT at h
  rw [List.getElem?_map] at h
  obtain ⟨l, h1, h2⟩ := Option.map_eq_some_iff.mp h
  exact ⟨l, h1, (Prod.mk.inj h2).1.symm⟩
/-- lists of lots, perhaps not new -/
def EvLP (te : TE) (σ : L2.St) (H : Hp) (ls : List (List Nat)) : Prop := ∀ H1, Ex H H1 → ∀ Q : VK, (∀ p vs H2, Ex H1 H2 → H2 p = some (.lst vs) → Lots H2 vs ls → Q (.ref p) H2) → te σ H1 Q
section
variable {K : PySem.W.Frag} {σ : L2.St} {H : Hp} {ta tb te tl : TE} {D : Ends} {tz tu : TS} {x z : V} {g : TG}
theorem s_par {i j : Nat} {ta : TA} {v w : V} (h : EvA ta σ H [v, w]) (k : ∀ H1, Ex H H1 → D.nx ((σ.set i (some v)).set j (some w)) H1) : tPar i j ta D σ H := h H (Ex.refl H) _ fun H1 e => ⟨v, w, rfl, k H1 e⟩
theorem q_par {i j : Nat} {ta : TA} {v w : V} (h : EvA ta σ H [v, w]) (k : ∀ H1, Ex H H1 → tz D ((σ.set i (some v)).set j (some w)) H1) : tSeq (tPar i j ta) tz D σ H := h H (Ex.refl H) _ fun H1 e => ⟨v, w, rfl, k H1 e⟩
theorem ep_every {y : Addr} {n : Nat} {ws : List Wl} (hy : Y H y n ws) (h6 : ws.length ≤ 6) (h : Ev ta σ H (.ref y)) : EvP (tCall spEvery [] L2.E0 (tCons ta tNil)) σ H (LN (evy ws)) :=
  ep_c1 (ea_cons h ea_nil) fun H1 e1 Q q => ⟨y, n, ws, rfl, hy.ext e1, h6, q⟩
theorem s_forLP {ls : List (List Nat)} (h : EvLP tl σ H ls) (Pv : Addr → List V → Nat → L2.St → Hp → Prop) (h0 : ∀ p us H1, Ex H H1 → H1 p = some (.lst us) → Lots H1 us ls → Pv p us 0 σ H1) (hl : ∀ p us i σ' H', i ≤ us.length → Pv p us i σ' H' → H' p = some (.lst us))
    (hs : ∀ p us i x σ' H', us.length = ls.length → us[i]? = some x → Pv p us i σ' H' → g x σ' H' fun σ2 H2 => tu { D with nx := Pv p us (i + 1), ct := Pv p us (i + 1), bk := D.nx } σ2 H2) (hd : ∀ p us σ' H', us.length = ls.length → Pv p us us.length σ' H' → D.nx σ' H') : tFor (iList K tl) g tu D σ H :=
  h H (Ex.refl H) _ fun p us H1 e hp hu => ⟨p, rfl, ⟨us, sq_of hp⟩, for_list (Pv p us) (h0 p us H1 e hp hu) (fun i σ' H' hi q => sq_of (hl p us i σ' H' hi q)) (fun i x σ' H' hx q => hs p us i x σ' H' hu.len hx q) (fun σ' H' q => hd p us σ' H' hu.len q)⟩
/-- a lot in a dict of lots -/
theorem et_nin {d : Addr} {l : List Nat} {ls : List (List Nat)} (ha : EvP ta σ H (LN l)) (hb : Ev tb σ H (.ref d)) (hd : H d = some (.dT (dT ls))) : EvT (tTest (tDNotIn ta tb)) σ H (decide (l ∉ ls)) := fun H1 e Q q =>
  ha H1 e _ fun p H2 e2 hp => hb H2 (e.trans e2) _ fun H3 e3 => ⟨d, valV (dT ls) (kl l), rfl, DGet.t (e3 _ _ (e2 _ _ (e _ _ hd))) (by rw [kl_V]; exact e3 _ _ hp), _, rfl, by
    rw [valV_dT, ← decide_not]
    exact q H3 (e2.trans e3)⟩
end
theorem min_int (a b : Nat) : (if (b : Int) < (a : Int) then (b : Int) else (a : Int)) = ((min a b : Nat) : Int) := by
  split <;> omega
/-- a day more -/
theorem PG.nexts {ws : List Wl} {m t : Nat} {L : List Nat} (h : PG ws m t L) {A : List Nat} (hA : A ∈ lw (come ws L) (min m (come ws L).length)) : PG ws m (t + 1) (sortN (L ++ A)) := by
  obtain ⟨h1, h2, h3⟩ := (mem_lw _ _).mp hA
  exact .step h h1 h2 h3 (sortN_adds L A)
theorem PG.inv {ws : List Wl} {m t : Nat} {L' : List Nat} (h : PG ws m (t + 1) L') : ∃ L A, PG ws m t L ∧ A ∈ lw (come ws L) (min m (come ws L).length) ∧ L' = sortN (L ++ A) := by
  cases h with
  | @step _ L A _ g hA hc hl ha =>
    refine ⟨L, A, g, (mem_lw _ _).mpr ⟨hA, hc, hl⟩, ?_⟩
    exact ha.uniq (sortN_adds L A) g.ok.1 hA fun x hx => (mem_come.mp (hc x hx)).1.2
theorem PG.more {ws : List Wl} {m t : Nat} {L : List Nat} (h : PG ws m t L) : ∃ L', PG ws m (t + 1) L' := by
  obtain ⟨B, b1, b2, _⟩ := pick (p := fun _ => false) (come ws L) (min m (come ws L).length) (by rw [List.filter_eq_nil_iff.mpr (fun _ _ => by decide)]; exact Nat.zero_le _) (by omega)
  obtain ⟨L', a⟩ := Adds.ex L B
  exact ⟨L', .step h ((ris_come ws L).sublist b1) (fun x hx => b1.subset hx) b2 a⟩
theorem come_len (ws : List Wl) (lot : List Nat) : (come ws lot).length ≤ ws.length := Nat.le_trans (List.length_filter_le _ _) (rest_len ws lot)
theorem pg_few {ws : List Wl} {m t : Nat} (h6 : ws.length ≤ 6) {ms : List (List Nat)} (nd : ms.Nodup) (h : ∀ l ∈ ms, PG ws m t l) : ms.length ≤ 64 := by
  have := few_lots (m := 6) nd fun l hl => ⟨(h l hl).ok.1, fun x hx => Nat.lt_of_lt_of_le ((h l hl).ok.2 x hx) h6⟩
  exact this
/- 0 yard, 1 masons, 2 now, 3 days, 4 later, 5 lot, 6 ready, 7 some -/
theorem sc_fewest_days : FnScope ["yard", "masons", "now", "days", "later", "lot", "ready", "some"] ["yard", "masons"] (tScope 30) := ⟨rfl, rfl, rfl, by decide +kernel, rfl, by decide +kernel, by decide +kernel⟩
def spFewest : Sp := fun vs H Q _ => ∃ (y : Addr) (n : Nat) (ws : List Wl) (m : Nat), vs = [.ref y, iN m] ∧ Y H y n ws ∧ Yd n ws ∧ 1 ≤ m ∧ m ≤ 12 ∧ (¬ Leaves ws → RetV .non H Q) ∧ ∀ d, Leaves ws → DaysP ws m d → RetV (iN d) H Q
section
variable {P : Program} {w : World} {K : PySem.W.Frag} {mg : Str → Option Value} {base : Heap}
theorem ok_fewest_days (g_need_yard : Cal P w K mg base 4 "need_yard" spNeedYard) (g_need_from : Cal P w K mg base 3 "need_from" spNeedFrom) (g_is_growth : Cal P w K mg base 3 "is_growth" spGrowth) (g_every : Cal P w K mg base 1 "every" spEvery) (g_can_come_of : Cal P w K mg base 3 "can_come_of" spCome)
    (g_lots_within : Cal P w K mg base 1 "lots_within" spLots) (T : Tx K mg) (D : Df K mg "fewest_days" 30) : Cal P w K mg base 5 "fewest_days" spFewest := by
  refine D.cal sc_fewest_days (fun vs H Q E h => ?_) (fun _ _ _ _ _ _ us hl => match us, hl with | [_, _], _ => rfl) (fun f cdv A outer s H vs Q E hr h => ?_)
  · obtain ⟨y, n, ws, m, rfl, _⟩ := h
    rfl
  · obtain ⟨y, n, ws, m, rfl, hy, yd, m1, m12, k0, k1⟩ := h
    have hr64 := hr.units
    have hu : (A.deeper (envOfC "fewest_days" (tScope 30) s.heap.objs.size f cdv)).units + 1 < cLine := by omega
    refine ⟨_, (pss_cons (ps_expr (pcall g_need_yard hr (by decide) rfl (pa_cons (pv 0) pa_nil)))
      (pss_cons (ps_expr (pcall g_need_from hr (by decide) rfl (pa_cons (pv 1) (pa_cons pe_int (pa_cons (pcon rfl T.c_MOST_MASONS) pa_nil)))))
      (pss_cons (ps_if (pt_not (pt_val (pcall g_is_growth hr (by decide) rfl (pa_cons (pv 0) (pa_cons (pcall g_every hr (by decide) rfl (pa_cons (pv 0) pa_nil)) pa_nil))))) (pss_one (ps_ret pe_non)) pss_nil)
      (pss_cons (ps_par (i := 2) (j := 3) rfl sc_fewest_days.nd rfl rfl (by decide) rfl rfl (pa_cons (WR.pe_disp1 hu (pe_tup pa_nil) pe_bl) (pa_cons pe_int pa_nil)) (by rfl))
      (pss_cons (ps_while PassesOwn.never (pt_cmp (pc_dnotin hu (pcall g_every hr (by decide) rfl (pa_cons (pv 0) pa_nil)) (pv 2)))
        (pss_cons (ps_set (i := 4) sc_fewest_days.nd rfl (by first | exact Or.inl rfl | exact Or.inr rfl) pe_dnewT)
        (pss_cons (ps_lock (ps_for PassesOwn.never rfl (pi_keys (pv 2)) (pg_name (i := 5) sc_fewest_days.nd rfl (by first | exact Or.inl rfl | exact Or.inr rfl))
          (pss_cons (ps_set (i := 6) sc_fewest_days.nd rfl (by first | exact Or.inl rfl | exact Or.inr rfl) (pcall g_can_come_of hr (by decide) rfl (pa_cons (pv 0) (pa_cons (pv 5) pa_nil))))
          (pss_one (ps_for PassesOwn.never rfl (k_pl (K := K) rfl (pcall g_lots_within hr (by decide) rfl (pa_cons (pv 6) (pa_cons (pe_callB (call_min2 rfl) (by rfl) T.b_min (by decide +kernel) (pa_cons (pv 1) (pa_cons (pe_callB (k_len (K := K) rfl) (by rfl) T.b_len (by decide +kernel) (pa_cons (pv 6) pa_nil)) pa_nil))) pa_nil)))) (pg_name (i := 7) sc_fewest_days.nd rfl (by first | exact Or.inl rfl | exact Or.inr rfl))
            (pss_one (ps_dput hu (pv 4) (pe_callTy (k_tupOf (K := K) rfl) (by rfl) T.b_tuple (by decide +kernel) (pa_cons (pe_callB (k_sortT (K := K) rfl) (by rfl) T.b_sorted (by decide +kernel) (pa_cons (pe_op (k_cat (K := K) rfl) (pv 5) (pv 7)) pa_nil)) pa_nil)) pe_bl rfl)))))))
        (pss_one (ps_par (i := 2) (j := 3) rfl sc_fewest_days.nd rfl rfl (by decide) rfl rfl (pa_cons (pv 4) (pa_cons (pe_op op_add (pv 3) pe_int) pa_nil)) (by rfl))))))
      (pss_one (ps_ret (pv 3)))))))), ?_⟩
    have h6 := yd.few
    have evl : (evy ws).length ≤ 6 := by unfold evy; rw [List.length_range]; exact h6
    refine q_exp (ea_cons (ev_var rfl) ea_nil) (fun H1 e1 Q q => ⟨y, n, ws, rfl, hy.ext e1, yd, q⟩) fun H1 e1 => ?_
    refine q_exp (ea_cons (ev_var rfl) (ea_cons ev_c (ea_cons ev_c ea_nil))) (fun H2 e2 Q q => ⟨m, 1, 12, rfl, by omega, by omega, q⟩) fun H2 e2 => ?_
    have e12 := e1.trans e2
    refine q_when (et_not (et_B (ev_c2 (sp := spGrowth) (z := .bl (growth ws (evy ws))) (x := .ref y) (ev_var rfl) (ep_every (hy.ext e12) h6 (ev_var rfl)) fun p H3 e3 hp Q q => ⟨y, p, n, ws, evy ws, rfl, (hy.ext e12).ext e3, yd, hp, evl, fun x hx => mem_evy.mp hx, q⟩))) (fun hb H3 e3 => ?_) (fun hb H3 e3 => ?_)
    · refine s_ret ev_c fun H4 e4 => k0 (fun lv => ?_) H4 ((e12.trans e3).trans e4)
      rw [growth_evy.mpr lv] at hb
      cases hb
    have lv : Leaves ws := growth_evy.mp (by simpa using hb)
    have e13 := e12.trans e3
    -- now, days = ({(): True}, 0)
    refine fun d nd => ?_
    refine ⟨Nat.zero_le _, fun p0 n0 => ?_⟩
    have x1 := Ex.new (o := .dT []) nd
    have x2 := Ex.new (o := .tup []) n0
    refine ⟨x2 _ _ upd_same, p0, [], .bl true, rfl, upd_same, ⟨_, _, rfl, ?_⟩⟩
    have eD : Ex H (upd (upd (upd H3 d (.dT [])) p0 (.tup [])) d (.dT [([], .bl true)])) := Ex.mut (e13.trans (x1.trans x2)) (fresh_back e13 nd)
    refine q_while (fun v σ H' => ∃ nw t ls o4 o5 o6 o7, σ = [some (.ref y), some (iN m), some (.ref nw), some (iN t), o4, o5, o6, o7] ∧ Ex H H' ∧ H nw = none ∧ H' nw = some (.dT (dT ls)) ∧ ls.Nodup ∧ (∀ l, l ∈ ls ↔ PG ws m t l) ∧ (∀ j, j < t → ¬ PG ws m j (evy ws)) ∧ (∃ L, PG ws m t L) ∧ v = ws.length + 1 - t)
      (ws.length + 1) ⟨d, 0, [[]], _, _, _, _, rfl, eD, fresh_back e13 nd, upd_same, by simp, fun l => ⟨fun h => by rw [List.mem_singleton.mp h]; exact .zero, fun h => by cases h; simp⟩, fun j hj => absurd hj (Nat.not_lt_zero _), ⟨[], .zero⟩, rfl⟩ ?_
    rintro v σ H4 ⟨nw, t, ls, o4, o5, o6, o7, rfl, e4, nnw, hnw, lnd, lmem, no, ⟨L0, hL0⟩, rfl⟩
    refine ⟨_, et_nin (ep_every (hy.ext e4) h6 (ev_var rfl)) (ev_var rfl) hnw, fun hb H5 e5 => ?_, fun hb H5 e5 => ?_⟩
    · have hb : evy ws ∉ ls := of_decide_eq_true hb
      have tle : t ≤ ws.length := by
        obtain ⟨h1, _⟩ := hL0.low lv m1 no
        have := pigeon_lt (WM.Ris.nodup hL0.ok.1) hL0.ok.2
        omega
      refine ⟨fun σ2 H3 => ∃ nw ls o4 o5 o6 o7, σ2 = [some (.ref y), some (iN m), some (.ref nw), some (iN (t + 1)), o4, o5, o6, o7] ∧ Ex H H3 ∧ H nw = none ∧ H3 nw = some (.dT (dT ls)) ∧ ls.Nodup ∧ (∀ l, l ∈ ls ↔ PG ws m (t + 1) l), ?_, ?_⟩
      · rintro σ2 H3 ⟨nw, ls2, o4, o5, o6, o7, rfl, e, n', h', nd', mem'⟩
        refine ⟨ws.length + 1 - (t + 1), by omega, nw, t + 1, ls2, _, _, _, _, rfl, e, n', h', nd', mem', fun j hj => ?_, PG.more hL0, rfl⟩
        by_cases ej : j = t
        · subst ej
          exact fun h => hb ((lmem _).mpr h)
        · exact no j (by omega)
      -- later = {}
      refine fun la nla => ?_
      have nla0 : H la = none := fresh_back (e4.trans e5) nla
      have hnw6 : upd H5 la (.dT []) nw = some (.dT (dT ls)) := (Ex.new (o := .dT []) nla) _ _ (e5 _ _ hnw)
      have ne1 : la ≠ nw := fun z => by rw [z, e5 _ _ hnw] at nla; cases nla
      refine ⟨nw, _, hnw6, trivial, fun od => ?_⟩
      have e6 : Ex H (upd (upd H5 la (.dT [])) nw (.frz od (.dT (dT ls)))) := Ex.mut (Ex.mut (e4.trans e5) nla0) nnw
      refine ⟨.ref nw, rfl, nw, od, rfl, Or.inr ⟨dT ls, upd_same, ?_⟩⟩
      refine for_it (walk_keysT (d := nw) (o := od) (kvs := dT ls)) (fun j σ H' => ∃ ms o5 o6 o7, σ = [some (.ref y), some (iN m), some (.ref nw), some (iN t), some (.ref la), o5, o6, o7] ∧ Ex H H' ∧ H' nw = some (.frz od (.dT (dT ls))) ∧ H' la = some (.dT (dT ms)) ∧ ms.Nodup ∧
          ∀ l, l ∈ ms ↔ ∃ L A, L ∈ ls.take j ∧ A ∈ lw (come ws L) (min m (come ws L).length) ∧ l = sortN (L ++ A))
        ⟨[], _, _, _, rfl, e6, upd_same, by rw [upd_ne ne1]; exact upd_same, by simp, fun l => ⟨fun h => by simp at h, fun ⟨L, A, h, _⟩ => by simp at h⟩⟩ (fun j σ' H' _ p => by obtain ⟨_, _, _, _, _, _, h, _⟩ := p; exact h) ?_ ?_
      · rintro j x σ' H6 H7 hj ⟨ms, o5, o6, o7, rfl, e7, hnw7, hla7, mnd, mmem⟩ ⟨rfl, kk, vv, q, hkv, rfl, hq⟩
        obtain ⟨L, hL, rfl⟩ := dT_get hkv
        rw [kl_V] at hq
        have hPL : PG ws m t L := (lmem L).mp (List.mem_of_getElem? hL)
        have cl := come_len ws L
        refine q_call (ea_cons (ev_var rfl) (ea_cons (ev_var rfl) ea_nil)) fun H8 e8 => ⟨y, q, n, ws, L, rfl, hy.ext (e7.trans e8), yd, e8 _ _ hq, hPL.ok.2, fun r H9 e9 hr' => ?_⟩
        have e79 := e8.trans e9
        -- the loop over the lots within
        have lots : EvLP (tCall spLots [] L2.E0 (tCons (tVar 6) (tCons (tCB (fun xs H Q => ∃ i j, xs = [.int i, .int j] ∧ Q (.int (if j < i then j else i)) H) (tCons (tVar 1) (tCons (tCB (rLenS K) (tCons (tVar 6) tNil)) tNil))) tNil))) [some (.ref y), some (iN m), some (.ref nw), some (iN t), some (.ref la), some (.ref q), some (.ref r), o7] H9 (lw (come ws L) (min m (come ws L).length)) := fun Ha ea Q k => by
          refine ea_cons (x := .ref r) (vs := [iN (min m (come ws L).length)]) (ev_var rfl) (ea_cons (fun Hb eb Q2 k2 => ?_) ea_nil) Ha ea _ fun Hb eb => ?_
          · refine (ea_cons (x := iN m) (vs := [.int ((LN (come ws L)).length : Int)]) (ev_var rfl) (ea_cons (ev_lenT (ev_var rfl) hr') ea_nil)) Hb eb _ fun Hc ec => ⟨_, _, rfl, ?_⟩
            rw [LN_len, min_int]
            exact k2 Hc ec
          · refine ⟨r, come ws L, min m (come ws L).length, rfl, eb _ _ (ea _ _ hr'), by omega, by omega, fun p us H2 e2 hp hls => k p us H2 (eb.trans e2) hp hls⟩
        have hla9 := e79 _ _ hla7
        have hnw9 := e79 _ _ hnw7
        have notup : ∀ {kvs : List (List Key × V)} (ys : List V), HO.dT kvs ≠ .tup ys := fun ys z => by cases z
        refine s_forLP lots (fun p us i σ H' => ∃ ms2 o7, σ = [some (.ref y), some (iN m), some (.ref nw), some (iN t), some (.ref la), some (.ref q), some (.ref r), o7] ∧ Ex (hide H9 la) H' ∧ H' p = some (.lst us) ∧ Lots H' us (lw (come ws L) (min m (come ws L).length)) ∧ H' la = some (.dT (dT ms2)) ∧ ms2.Nodup ∧
            ∀ l, l ∈ ms2 ↔ l ∈ ms ∨ ∃ A, A ∈ (lw (come ws L) (min m (come ws L).length)).take i ∧ l = sortN (L ++ A))
          (fun p us H10 e10 hp hls => ⟨ms, _, rfl, hide_ex.trans e10, hp, hls, e10 _ _ hla9, mnd, fun l => ⟨Or.inl, fun h => by
            rcases h with h | ⟨A, h, _⟩
            · exact h
            · simp at h⟩⟩) (fun p us i σ' H' _ p => by obtain ⟨_, _, _, _, h, _⟩ := p; exact h) ?_ ?_
        · rintro p us i x σ' H10 hlen hx ⟨ms2, o7, rfl, e10, hp, hls, hla10, mnd2, mmem2⟩
          obtain ⟨b, Am, rfl, hA, hb'⟩ := hls.get hx
          have hAm := List.mem_of_getElem? hA
          have aw := (mem_lw _ _).mp hAm
          have hq9 : hide H9 la q = some (.tup (LN L)) := hide_tup hla9 notup (e79 _ _ hq)
          have few : ms2.length ≤ 64 := pg_few (m := m) (t := t + 1) h6 mnd2 fun l hl => by
            rcases (mmem2 l).mp hl with h | ⟨A', h, rfl⟩
            · obtain ⟨L2, A2, hl2, ha2, rfl⟩ := (mmem l).mp h
              exact PG.nexts ((lmem L2).mp (List.mem_of_mem_take hl2)) ha2
            · exact PG.nexts hPL (List.mem_of_mem_take h)
          have ll : L.length ≤ 6 := by
            have := pigeon_lt (WM.Ris.nodup hPL.ok.1) hPL.ok.2
            omega
          have key : EvP (tCB (rTupOf K) (tCons (tCB (WR.rSortedTu K) (tCons (tOp (rCatA K) (tVar 5) (tVar 7)) tNil)) tNil)) [some (.ref y), some (iN m), some (.ref nw), some (iN t), some (.ref la), some (.ref q), some (.ref r), some (.ref b)] H10 (LN (sortN (L ++ Am))) :=
            EvP.of (eu_tupL (el_sortT (ep_cat (ep_var rfl (e10 _ _ hq9)) (ep_var rfl hb') (by omega)) (by rw [List.length_append]; omega)))
          refine ⟨.ref la, rfl, ?_⟩
          refine key H10 (Ex.refl H10) _ fun u H11 e11 hu' => ⟨la, _, rfl, DPut.t (k := kl (sortN (L ++ Am))) (e11 _ _ hla10) (by rw [kl_V]; exact hu') (by rw [dT_len]; exact sz_lt (by omega)), ?_⟩
          rw [putK_dT]
          have ep : p ≠ la := fun z => by rw [z, hla10] at hp; cases hp
          refine ⟨putL ms2 (sortN (L ++ Am)), _, rfl, Ex.mut (e10.trans e11) hide_none, by rw [upd_ne ep]; exact e11 _ _ hp, ?_, upd_same, nodup_putL mnd2, fun l => ?_⟩
          · exact L2.Paired.mapP (hls.ext e11) fun _ _ ⟨c, h1, h2⟩ => ⟨c, h1, by rw [upd_ne (ne_of h2 (e11 _ _ hla10) (by intro z; cases z))]; exact h2⟩
          · rw [mem_putL, mmem2, List.take_add_one, hA]
            constructor
            · rintro ((h | ⟨A', h, e⟩) | e)
              · exact Or.inl h
              · exact Or.inr ⟨A', List.mem_append_left _ h, e⟩
              · exact Or.inr ⟨Am, List.mem_append_right _ (by simp), e⟩
            · rintro (h | ⟨A', h, e⟩)
              · exact Or.inl (Or.inl h)
              · rcases List.mem_append.mp h with h | h
                · exact Or.inl (Or.inr ⟨A', h, e⟩)
                · have : A' = Am := by simpa using h
                  rw [this] at e
                  exact Or.inr e
        · rintro p us σ' H10 hlen ⟨ms2, o7, rfl, e10, hp, hls, hla10, mnd2, mmem2⟩
          have nnw9 : hide H9 la nw = some (.frz od (.dT (dT ls))) := hide_get hnw9 (Ne.symm ne1)
          refine ⟨ms2, _, _, _, rfl, (hide_of (e7.trans e79) nla0).trans e10, e10 _ _ nnw9, hla10, mnd2, fun l => ?_⟩
          rw [mmem2, mmem, List.take_add_one, hL, hlen, List.take_length]
          constructor
          · rintro (⟨L2, A2, h, h2, e⟩ | ⟨A2, h2, e⟩)
            · exact ⟨L2, A2, List.mem_append_left _ h, h2, e⟩
            · exact ⟨L, A2, List.mem_append_right _ (by simp), h2, e⟩
          · rintro ⟨L2, A2, h, h2, e⟩
            rcases List.mem_append.mp h with h | h
            · exact Or.inl ⟨L2, A2, h, h2, e⟩
            · have : L2 = L := by simpa using h
              subst this
              exact Or.inr ⟨A2, h2, e⟩
      · rintro σ' H6 ⟨ms, o5, o6, o7, rfl, e7, hnw7, hla7, mnd, mmem⟩
        refine ⟨hnw7, ?_⟩
        have hla8 : upd H6 nw (.dT (dT ls)) la = some (.dT (dT ms)) := by rw [upd_ne ne1]; exact hla7
        refine s_par (v := .ref la) (w := iN (t + 1)) (ea_cons (ev_var rfl) (ea_cons (ev_op (ev_var rfl) ev_c rv_I0) ea_nil)) fun H8 e8 => ?_
        refine ⟨la, ms, _, _, _, _, rfl, (Ex.mut e7 nnw).trans e8, nla0, e8 _ _ hla8, mnd, fun l => ?_⟩
        rw [mmem, dT_len, List.take_length]
        constructor
        · rintro ⟨L, A, h1, h2, rfl⟩
          exact PG.nexts ((lmem L).mp h1) h2
        · intro h
          obtain ⟨L, A, h1, h2, e⟩ := PG.inv h
          exact ⟨L, A, (lmem L).mpr h1, h2, e⟩
    · have hb : evy ws ∈ ls := by simpa using hb
      refine s_ret (ev_var rfl) fun H6 e6 => k1 t lv ⟨(lmem _).mp hb, no⟩ H6 ((e4.trans e5).trans e6)
end
end WL


set_option Elab.async false
set_option linter.all false
set_option maxRecDepth 100000
set_option maxHeartbeats 4000000
/-! Depths: rooms by the number of gaps. -/
namespace WL
open PySem PySem.Spec PyProof.Rows L2 Evl WM
def kI (n : Nat) : Key := Sum.inl (n : Int)
def dK (fs : List (Nat × Nat)) : List (Key × V) := fs.map fun p => (kI p.1, iN p.2)
theorem kI_inj {a b : Nat} (h : kI a = kI b) : a = b := by
  unfold kI at h
  injection h with h
  omega
theorem dK_len (fs : List (Nat × Nat)) : (dK fs).length = fs.length := List.length_map ..
theorem valV_dK {fs : List (Nat × Nat)} (un : ∀ p ∈ fs, ∀ q ∈ fs, p.1 = q.1 → p.2 = q.2) {r e : Nat} (h : (r, e) ∈ fs) : valV (dK fs) (kI r) = some (iN e) := by
  induction fs with
  | nil => exact nomatch h
  | cons p fs ih =>
    show valV ((kI p.1, iN p.2) :: dK fs) (kI r) = _
    by_cases c : p.1 = r
    · rw [valV_pos (p := (kI p.1, iN p.2)) (by show kI p.1 = kI r; rw [c])]
      have : p.2 = e := un p (by simp) (r, e) h c
      rw [← this]
    · rw [valV_neg (p := (kI p.1, iN p.2)) (fun z => c (kI_inj z))]
      refine ih (fun p hp q hq => un p (List.mem_cons_of_mem _ hp) q (List.mem_cons_of_mem _ hq)) ?_
      rcases List.mem_cons.mp h with h | h
      · rw [← h] at c
        exact absurd rfl c
      · exact h
theorem valV_dKn {fs : List (Nat × Nat)} {r : Nat} (h : r ∉ fs.map Prod.fst) : valV (dK fs) (kI r) = none := by
  induction fs with
  | nil => rfl
  | cons p fs ih =>
    rw [List.map_cons, List.mem_cons] at h
    show valV ((kI p.1, iN p.2) :: dK fs) (kI r) = _
    rw [valV_neg (p := (kI p.1, iN p.2)) (fun z => h (Or.inl (kI_inj z).symm))]
    exact ih fun c => h (Or.inr c)
theorem dK_in {fs : List (Nat × Nat)} (un : ∀ p ∈ fs, ∀ q ∈ fs, p.1 = q.1 → p.2 = q.2) (r : Nat) : (valV (dK fs) (kI r)).isSome = decide (r ∈ fs.map Prod.fst) := by
  by_cases h : r ∈ fs.map Prod.fst
  · obtain ⟨⟨r', e⟩, hp, rfl⟩ := List.mem_map.mp h
    rw [valV_dK un hp, decide_eq_true h]
    rfl
  · rw [valV_dKn h, decide_eq_false h]
    rfl
section
variable {K : PySem.W.Frag} {σ : L2.St} {H : Hp} {ta tb te td ty tv : TE} {D : Ends} {tz tu : TS} {x z v : V} {g : TG}
theorem ev_dget {a : Addr} {kvs : List (Key × V)} {k : Key} (hd : Ev td σ H (.ref a)) (hy : Ev ty σ H (kV k)) (ha : H a = some (.dK kvs)) (hv : valV kvs k = some v) : Ev (tDGet td ty) σ H v := fun H1 e Q q =>
  hd H1 e _ fun H2 e2 => hy H2 (e.trans e2) _ fun H3 e3 => ⟨a, v, rfl, by rw [← hv]; exact DGet.k (e3 _ _ (e2 _ _ (e _ _ ha))), q H3 (e2.trans e3)⟩
theorem et_dnin {a : Addr} {kvs : List (Key × V)} {k : Key} (hy : Ev ty σ H (kV k)) (hd : Ev td σ H (.ref a)) (ha : H a = some (.dK kvs)) : EvT (tTest (tDNotIn ty td)) σ H (!(valV kvs k).isSome) := fun H1 e Q q =>
  hy H1 e _ fun H2 e2 => hd H2 (e.trans e2) _ fun H3 e3 => ⟨a, _, rfl, DGet.k (e3 _ _ (e2 _ _ (e _ _ ha))), _, rfl, q H3 (e2.trans e3)⟩
theorem et_din {a : Addr} {kvs : List (Key × V)} {k : Key} (hy : Ev ty σ H (kV k)) (hd : Ev td σ H (.ref a)) (ha : H a = some (.dK kvs)) : EvT (tTest (tDIn ty td)) σ H (valV kvs k).isSome := fun H1 e Q q =>
  hy H1 e _ fun H2 e2 => hd H2 (e.trans e2) _ fun H3 e3 => ⟨a, _, rfl, DGet.k (e3 _ _ (e2 _ _ (e _ _ ha))), _, rfl, q H3 (e2.trans e3)⟩
theorem q_dput {a : Addr} {kvs : List (Key × V)} {k : Key} (hv : Ev tv σ H v) (hd : Ev td σ H (.ref a)) (hy : Ev ty σ H (kV k)) (ha : H a = some (.dK kvs)) (hz : kvs.length < 100000) (c : ∀ H1, Ex H H1 → tz D σ (upd H1 a (.dK (putK kvs k v)))) : tSeq (sDPut td ty tv) tz D σ H :=
  hv H (Ex.refl H) _ fun H1 e1 => hd H1 e1 _ fun H2 e2 => hy H2 (e1.trans e2) _ fun H3 e3 => ⟨a, _, rfl, DPut.k (((e1.trans e2).trans e3) _ _ ha) (sz_lt hz), c H3 ((e1.trans e2).trans e3)⟩
theorem ev_neVL {p : Addr} {a b : List Nat} (ha : Ev ta σ H (.ref p)) (hp : H p = some (.lst (LN a))) (hb : EvL tb σ H (LN b)) : Ev (tOp (rNeD K) ta tb) σ H (.bl (!decide (a = b))) :=
  ev_opL ha hb fun q H1 hq e => rv_val fun H2 e2 Q k => ⟨_, _, dp_L (e2 _ _ (e _ _ hp)), dp_L (e2 _ _ hq), shaped_dL a, shaped_dL b, by
    show Q (.bl (!PyData.eqvAll (dN a) (dN b))) H2
    rw [eqv_dN]
    exact k⟩
end
structure Lev (ws : List Wl) (lot : List Nat) (d : Nat) (fs : List (Nat × Nat)) (es : List Nat) : Prop where
  min : ∀ p ∈ fs, MinD ws lot p.1 p.2
  all : ∀ r e, e ≤ d → MinD ws lot r e → (r, e) ∈ fs
  le : ∀ p ∈ fs, p.2 ≤ d
  edge : ∀ r, r ∈ es ↔ MinD ws lot r d
  nd : (fs.map Prod.fst).Nodup
structure Mid (ws : List Wl) (lot : List Nat) (d : Nat) (fs : List (Nat × Nat)) (ls : List Nat) : Prop where
  min : ∀ r ∈ ls, MinD ws lot r (d + 1)
  nd : (fs.map Prod.fst ++ ls).Nodup
def plus (fs : List (Nat × Nat)) (d : Nat) (ls : List Nat) : List (Nat × Nat) := fs ++ ls.map fun r => (r, d + 1)
theorem plus_fst (fs : List (Nat × Nat)) (d : Nat) (ls : List Nat) : (plus fs d ls).map Prod.fst = fs.map Prod.fst ++ ls := by
  unfold plus
  rw [List.map_append, List.map_map]
  congr 1
  exact List.map_id' _
theorem plus_snoc (fs : List (Nat × Nat)) (d : Nat) (ls : List Nat) (r : Nat) : plus fs d (ls ++ [r]) = plus fs d ls ++ [(r, d + 1)] := by
  unfold plus
  rw [List.map_append, List.append_assoc]
  rfl
theorem plus_min {ws : List Wl} {lot : List Nat} {d : Nat} {fs : List (Nat × Nat)} {es ls : List Nat} (lv : Lev ws lot d fs es) (md : Mid ws lot d fs ls) : ∀ p ∈ plus fs d ls, MinD ws lot p.1 p.2 := fun p hp => by
  rcases List.mem_append.mp hp with h | h
  · exact lv.min p h
  · obtain ⟨r, hr, rfl⟩ := List.mem_map.mp h
    exact md.min r hr
theorem min_un {ws : List Wl} {lot : List Nat} {fs : List (Nat × Nat)} (h : ∀ p ∈ fs, MinD ws lot p.1 p.2) : ∀ p ∈ fs, ∀ q ∈ fs, p.1 = q.1 → p.2 = q.2 := fun p hp q hq e => by
  have h1 := h p hp
  have h2 := h q hq
  rw [← e] at h2
  exact h1.uniq h2
theorem min_few {n : Nat} {ws : List Wl} (g : Good n ws) {lot : List Nat} {fs : List (Nat × Nat)} (h : ∀ p ∈ fs, MinD ws lot p.1 p.2) (nd : (fs.map Prod.fst).Nodup) : fs.length ≤ n := by
  have := pigeon_lt nd fun x hx => by
    obtain ⟨p, hp, rfl⟩ := List.mem_map.mp hx
    exact Reach.lt g ⟨_, (h p hp).1⟩
  rw [List.length_map] at this
  exact this
theorem Mid.more {ws : List Wl} {lot : List Nat} {d : Nat} {fs : List (Nat × Nat)} {es ls : List Nat} (lv : Lev ws lot d fs es) (md : Mid ws lot d fs ls) {u k : Nat} {w : Wl} (hu : MinD ws lot u d) (hk : k ∈ lot) (hw : ws[k]? = some w) (hs : u ∈ sides w)
    (hn : oth w u ∉ (plus fs d ls).map Prod.fst) : Mid ws lot d fs (ls ++ [oth w u]) := by
  rw [plus_fst] at hn
  refine ⟨fun r hr => ?_, ?_⟩
  · rcases List.mem_append.mp hr with h | h
    · exact md.min r h
    · rw [List.mem_singleton.mp h]
      have p : Path ws lot (oth w u) (d + 1) := .step hu.1 hk hw hs
      obtain ⟨e, he, me⟩ := MinD.of p
      by_cases c : e ≤ d
      · exact absurd (List.mem_append_left _ (List.mem_map.mpr ⟨_, lv.all _ _ c me, rfl⟩)) hn
      · have : e = d + 1 := by omega
        rw [this] at me
        exact me
  · rw [← List.append_assoc, List.nodup_append]
    exact ⟨md.nd, by simp, fun a ha b hb e => hn (by rw [← List.mem_singleton.mp hb, ← e]; exact ha)⟩
theorem Lev.next {ws : List Wl} {lot : List Nat} {d : Nat} {fs : List (Nat × Nat)} {es ls : List Nat} (lv : Lev ws lot d fs es) (md : Mid ws lot d fs ls)
    (cov : ∀ u ∈ es, ∀ k ∈ lot, ∀ w, ws[k]? = some w → u ∈ sides w → oth w u ∈ (plus fs d ls).map Prod.fst) : Lev ws lot (d + 1) (plus fs d ls) ls := by
  have edge : ∀ r, r ∈ ls ↔ MinD ws lot r (d + 1) := fun r => ⟨md.min r, fun h => by
    obtain ⟨u, k, w, hu, hk, hw, hs, e⟩ := h.back
    have := cov u ((lv.edge u).mpr hu) k hk w hw hs
    rw [← e, plus_fst] at this
    rcases List.mem_append.mp this with q | q
    · obtain ⟨p, hp, e'⟩ := List.mem_map.mp q
      have h1 := lv.min p hp
      have h2 := lv.le p hp
      rw [e'] at h1
      have := h1.uniq h
      omega
    · exact q⟩
  refine ⟨plus_min lv md, fun r e he h => ?_, fun p hp => ?_, edge, by rw [plus_fst]; exact md.nd⟩
  · by_cases c : e ≤ d
    · exact List.mem_append_left _ (lv.all r e c h)
    · have : e = d + 1 := by omega
      subst this
      exact List.mem_append_right _ (List.mem_map.mpr ⟨r, (edge r).mpr h, rfl⟩)
  · rcases List.mem_append.mp hp with h | h
    · have := lv.le p h
      omega
    · obtain ⟨r, hr, rfl⟩ := List.mem_map.mp h
      exact Nat.le_refl _
theorem Lev.fin {ws : List Wl} {lot : List Nat} {d : Nat} {fs : List (Nat × Nat)} (lv : Lev ws lot d fs []) : ∀ r e, (r, e) ∈ fs ↔ MinD ws lot r e := fun r e => by
  have no : ∀ j r, ¬ MinD ws lot r (d + j) := by
    intro j
    induction j with
    | zero => exact fun r h => List.not_mem_nil ((lv.edge r).mpr h)
    | succ j ih =>
      intro r h
      obtain ⟨u, _, _, hu, _⟩ := MinD.back (d := d + j) h
      exact ih u hu
  refine ⟨fun h => lv.min _ h, fun h => ?_⟩
  by_cases c : e ≤ d
  · exact lv.all r e c h
  · have := no (e - d) r
    rw [show d + (e - d) = e by omega] at this
    exact absurd h this
theorem Lev.start (ws : List Wl) (lot : List Nat) : Lev ws lot 0 [(0, 0)] [0] := by
  have z : ∀ r, MinD ws lot r 0 → r = 0 := fun r h => by cases h.1; rfl
  refine ⟨fun p hp => ?_, fun r e he h => ?_, fun p hp => ?_, fun r => ⟨fun h => ?_, fun h => ?_⟩, by simp⟩
  · rw [List.mem_singleton.mp hp]
    exact MinD.zero
  · have : e = 0 := by omega
    subst this
    rw [z r h]
    simp
  · rw [List.mem_singleton.mp hp]
    exact Nat.le_refl _
  · rw [List.mem_singleton.mp h]
    exact MinD.zero
  · rw [z r h]
    simp
/- 0 yard, 1 lot, 2 found, 3 edge, 4 later, 5 here, 6 number, 7 low, 8 high, 9 other -/
theorem sc_depths : FnScope ["yard", "lot", "found", "edge", "later", "here", "number", "low", "high", "other"] ["yard", "lot"] (tScope 24) := ⟨rfl, rfl, rfl, by decide +kernel, rfl, by decide +kernel, by decide +kernel⟩
def spDepths : Sp := fun vs H Q _ => ∃ (y l : Addr) (n : Nat) (ws : List Wl) (lot : List Nat), vs = [.ref y, .ref l] ∧ Y H y n ws ∧ Yd n ws ∧ H l = some (.tup (LN lot)) ∧ (∀ x ∈ lot, x < ws.length) ∧
  ∀ fs p H2, Ex H H2 → H2 p = some (.dK (dK fs)) → (∀ r e, (r, e) ∈ fs ↔ MinD ws lot r e) → Q (.ref p) H2
section
variable {P : Program} {w : World} {K : PySem.W.Frag} {mg : Str → Option Value} {base : Heap}
theorem ok_depths (g_sides_of : Cal P w K mg base 1 "sides_of" spSides) (T : Tx K mg) (D : Df K mg "depths" 24) : Cal P w K mg base 2 "depths" spDepths := by
  refine D.cal sc_depths (fun vs H Q E h => ?_) (fun _ _ _ _ _ _ us hl => match us, hl with | [_, _], _ => rfl) (fun f cdv A outer s H vs Q E hr h => ?_)
  · obtain ⟨y, l, n, ws, lot, rfl, _⟩ := h
    rfl
  · obtain ⟨y, l, n, ws, lot, rfl, hy, yd, hl, hlot, k⟩ := h
    have hr64 := hr.units
    have hu : (A.deeper (envOfC "depths" (tScope 24) s.heap.objs.size f cdv)).units + 1 < cLine := by omega
    refine ⟨_, (pss_cons (ps_par (i := 2) (j := 3) rfl sc_depths.nd rfl rfl (by decide) rfl rfl (pa_cons (pe_disp (pps_cons pe_int pe_int pps_nil) (by rfl) (by rfl) (fun z => by cases z) (by decide)) (pa_cons (pe_lst (pa_cons pe_int pa_nil)) pa_nil)) (by rfl))
      (pss_cons (ps_while PassesOwn.never (pt_cmpR (k_neD (K := K) rfl hr64) (pv 3) (pe_lst pa_nil) (nomark _))
        (pss_cons (ps_set (i := 4) sc_depths.nd rfl (by first | exact Or.inl rfl | exact Or.inr rfl) (pe_lst pa_nil))
        (pss_cons (ps_for PassesOwn.never rfl (k_pl (K := K) rfl (pv 3)) (pg_name (i := 5) sc_depths.nd rfl (by first | exact Or.inl rfl | exact Or.inr rfl))
          (pss_one (ps_for PassesOwn.never rfl (k_pt (K := K) rfl (pv 1)) (pg_name (i := 6) sc_depths.nd rfl (by first | exact Or.inl rfl | exact Or.inr rfl))
            (pss_cons (ps_asg (pe_slice (k_sl (K := K) rfl) (pe_ix (k_ixT (K := K) rfl) (pe_ix (k_ixT (K := K) rfl) (pv 0) pe_int (fun _ _ => rfl)) (pv 6) (fun _ _ => rfl)) po_none (po_some pe_int)) (k_gtup (K := K) rfl (by rfl) (pgs_cons (pg_name (i := 7) sc_depths.nd rfl (by first | exact Or.inl rfl | exact Or.inr rfl)) (pgs_cons (pg_name (i := 8) sc_depths.nd rfl (by first | exact Or.inl rfl | exact Or.inr rfl)) pgs_nil))))
            (pss_one (ps_if (PW.pt (pw_and (pt_cmpR (k_in (K := K) rfl) (pv 5) (pe_tup (pa_cons (pv 7) (pa_cons (pv 8) pa_nil))) (by with_unfolding_all rfl)) (pw_and1 (pt_cmpR (k_in (K := K) rfl) (pv 5) (pcall g_sides_of hr (by decide) rfl (pa_cons (pe_ix (k_ixT (K := K) rfl) (pe_ix (k_ixT (K := K) rfl) (pv 0) pe_int (fun _ _ => rfl)) (pv 6) (fun _ _ => rfl)) pa_nil)) (by with_unfolding_all rfl))))) (pss_cons (ps_set (i := 9) sc_depths.nd rfl (by first | exact Or.inl rfl | exact Or.inr rfl) (pe_op op_sub (pe_op op_add (pv 7) (pv 8)) (pv 5)))
              (pss_one (ps_if (pt_cmp (pc_dnotin hu (pv 9) (pv 2))) (pss_cons (ps_dput hu (pv 2) (pv 9) (pe_op op_add (pe_dget hu (pv 2) (pv 5) (fun _ _ => rfl)) pe_int) rfl)
                (pss_one (ps_expr (pe_bm PySem.F.plainAttrs_list PySem.F.slot_list_append PySem.F.type_list_append mt_append (pv 4) (pa_cons (pv 9) pa_nil))))) pss_nil))) pss_nil))))))
        (pss_one (ps_set (i := 3) sc_depths.nd rfl (by first | exact Or.inl rfl | exact Or.inr rfl) (pv 4))))))
      (pss_one (ps_ret (pv 2))))), ?_⟩
    have n9 := yd.rooms
    refine fun fo nfo => ⟨upd_same, [(kI 0, iN 0)], rfl, Nat.le_of_ble_eq_true rfl, Nat.le_trans (by decide : 1 ≤ 1) (by decide), fun ea nea => ⟨_, _, rfl, ?_⟩⟩
    have e0 : Ex H (upd (upd (upd H fo (.dK [])) fo (.dK (mergeK [] [(kI 0, iN 0)]))) ea (.lst [.int 0])) := (Ex.mut (Ex.new nfo) nfo).trans (Ex.new nea)
    refine q_while (fun m σ H' => ∃ d fs es fo ea o4 o5 o6 o7 o8 o9, σ = [some (.ref y), some (.ref l), some (.ref fo), some (.ref ea), o4, o5, o6, o7, o8, o9] ∧ Ex H H' ∧ H fo = none ∧ H' fo = some (.dK (dK fs)) ∧ H' ea = some (.lst (LN es)) ∧ Lev ws lot d fs es ∧ m = n + 1 - d)
      (n + 1) ⟨0, [(0, 0)], [0], fo, ea, _, _, _, _, _, _, rfl, e0, nfo, (Ex.new nea) _ _ upd_same, upd_same, Lev.start ws lot, rfl⟩ ?_
    rintro m σ H1 ⟨d, fs, es, fo, ea, o4, o5, o6, o7, o8, o9, rfl, e1, nfo, hfo, hea, lv, rfl⟩
    refine ⟨_, et_test (ev_neVL (ev_var rfl) hea el_none), fun hb H2 e2 => ?_, fun hb H2 e2 => ?_⟩
    · have hne : es ≠ [] := by
        intro z
        rw [z] at hb
        exact absurd hb (by decide)
      obtain ⟨u0, hu0⟩ := List.exists_mem_of_ne_nil es hne
      have dn : d < n := ((lv.edge u0).mp hu0).lt yd.good
      refine ⟨fun σ2 H3 => ∃ ls la o4 o5 o6 o7 o8 o9, σ2 = [some (.ref y), some (.ref l), some (.ref fo), some (.ref la), o4, o5, o6, o7, o8, o9] ∧ Ex H H3 ∧ H3 fo = some (.dK (dK (plus fs d ls))) ∧ H3 la = some (.lst (LN ls)) ∧ Lev ws lot (d + 1) (plus fs d ls) ls, ?_, ?_⟩
      · rintro σ2 H3 ⟨ls, la, o4, o5, o6, o7, o8, o9, rfl, e3, h3, h4, lv'⟩
        exact ⟨n + 1 - (d + 1), by omega, d + 1, plus fs d ls, ls, fo, la, _, _, _, _, _, _, rfl, e3, nfo, h3, h4, lv', rfl⟩
      have hfo2 := e2 _ _ hfo
      have hea2 := e2 _ _ hea
      refine q_asgL el_none fun la H3 nla e3 hla => ?_
      -- what does not change
      have eB : Ex H (hide H2 fo) := hide_of (e1.trans e2) nfo
      have nlaB : hide H2 fo la = none := by
        unfold hide
        split
        · rfl
        · exact nla
      have neae : ea ≠ fo := fun z => by rw [z, hfo2] at hea2; cases hea2
      have neal : ea ≠ la := fun z => by rw [z, nla] at hea2; cases hea2
      have nefl : la ≠ fo := fun z => by rw [z, hfo2] at nla; cases nla
      have heaB : hide H2 fo ea = some (.lst (LN es)) := hide_get hea2 neae
      refine q_forLn (a := ea) (xs := LN es) (ev_var rfl) (sq_of (e3 _ _ hea2)) (fun i σ H' => ∃ ls o5 o6 o7 o8 o9, σ = [some (.ref y), some (.ref l), some (.ref fo), some (.ref ea), some (.ref la), o5, o6, o7, o8, o9] ∧ Ex (hide H2 fo) H' ∧ H' fo = some (.dK (dK (plus fs d ls))) ∧ H' la = some (.lst (LN ls)) ∧ Mid ws lot d fs ls ∧
          ∀ i', i' < i → ∀ u, es[i']? = some u → ∀ k ∈ lot, ∀ w, ws[k]? = some w → u ∈ sides w → oth w u ∈ (plus fs d ls).map Prod.fst)
        (fun H4 e4 => ⟨[], _, _, _, _, _, rfl, hide_ex.trans (e3.trans e4), by
          have : plus fs d [] = fs := List.append_nil _
          rw [this]
          exact e4 _ _ (e3 _ _ hfo2), e4 _ _ hla, ⟨fun r h => absurd h List.not_mem_nil, by rw [List.append_nil]; exact lv.nd⟩, fun i' h => absurd h (Nat.not_lt_zero _)⟩)
        (fun i σ' H' _ p => by obtain ⟨_, _, _, _, _, _, _, e, _⟩ := p; exact sq_of (e _ _ heaB)) ?_ ?_
      · rintro i x σ' H4 hx ⟨ls, o5, o6, o7, o8, o9, rfl, e4, hfo4, hla4, md, cov⟩
        obtain ⟨u, hu', rfl⟩ := get_LN hx
        have hue := List.mem_of_getElem? hu'
        have hum := (lv.edge u).mp hue
        refine s_forT (a := l) (xs := LN lot) (ev_var rfl) (st_of ((eB.trans e4) _ _ hl)) (fun j σ H' => ∃ ls o6 o7 o8 o9, σ = [some (.ref y), some (.ref l), some (.ref fo), some (.ref ea), some (.ref la), some (iN u), o6, o7, o8, o9] ∧ Ex (hide H2 fo) H' ∧ H' fo = some (.dK (dK (plus fs d ls))) ∧ H' la = some (.lst (LN ls)) ∧ Mid ws lot d fs ls ∧
          (∀ i', i' < i → ∀ u, es[i']? = some u → ∀ k ∈ lot, ∀ w, ws[k]? = some w → u ∈ sides w → oth w u ∈ (plus fs d ls).map Prod.fst) ∧ ∀ j', j' < j → ∀ k, lot[j']? = some k → ∀ w, ws[k]? = some w → u ∈ sides w → oth w u ∈ (plus fs d ls).map Prod.fst)
          (fun H5 e5 => ⟨ls, _, _, _, _, rfl, e4.trans e5, e5 _ _ hfo4, e5 _ _ hla4, md, cov, fun j' h => absurd h (Nat.not_lt_zero _)⟩)
          (fun j σ' H' _ p => by obtain ⟨_, _, _, _, _, _, e, _⟩ := p; exact st_of ((eB.trans e) _ _ hl)) ?_ ?_
        · rintro j x σ' H5 hx2 ⟨ls, o6, o7, o8, o9, rfl, e5, hfo5, hla5, md, cov, cv2⟩
          obtain ⟨q, hq, rfl⟩ := get_LN hx2
          have hql : q ∈ lot := List.mem_of_getElem? hq
          obtain ⟨wl, hqw⟩ : ∃ wl, ws[q]? = some wl := ⟨_, List.getElem?_eq_getElem (hlot q hql)⟩
          obtain ⟨lo, hi, sd⟩ := wl
          have wok : WOk n (lo, hi, sd) := yd.ok hqw
          show tSeq _ _ _ _ _
          refine q_unp2 (x := iN lo) (y := iN hi) (ep_is (ep_slice (lo := none) (hi := some 2) (ep_wall (hy.ext (eB.trans e5)) hqw (ev_var rfl) ev_c (ev_var rfl)) eo_none (eo_some ev_c)) rfl) fun H6 e6 => ?_
          have e56 := e5.trans e6
          obtain ⟨wa, hwa, ew⟩ := ev_wall (K := K) (σ := [some (.ref y), some (.ref l), some (.ref fo), some (.ref ea), some (.ref la), some (iN u), some (iN q), some (iN lo), some (iN hi), o9]) (ta := tVar 0) (tb := tC (.int 1)) (tc := tVar 6) (hy.ext (eB.trans e56)) hqw (ev_var rfl) ev_c (ev_var rfl)
          have pend : ∀ b : Bool, b = true → ∀ {ls'}, (u ∈ sides (lo, hi, sd) → oth (lo, hi, sd) u ∈ (plus fs d ls').map Prod.fst) → (∀ x ∈ (plus fs d ls).map Prod.fst, x ∈ (plus fs d ls').map Prod.fst) → (∀ j', j' < j + 1 → ∀ k, lot[j']? = some k → ∀ w, ws[k]? = some w → u ∈ sides w → oth w u ∈ (plus fs d ls').map Prod.fst) := fun _ _ ls' h hs j' hj' k' hk' w' hw' hs' => by
            by_cases ej : j' = j
            · subst ej
              rw [hq] at hk'
              cases hk'
              rw [hqw] at hw'
              cases hw'
              exact h hs'
            · exact hs _ (cv2 j' (by omega) k' hk' w' hw' hs')
          refine s_if (et_and (et_test (ev_inTn (l := [lo, hi]) (ev_var rfl) (EvP.of (eu_tup (ea_cons (ev_var rfl) (ea_cons (ev_var rfl) ea_nil)) (Nat.le_of_ble_eq_true rfl))))) fun _ => et_test (ev_inTn (l := sides (lo, hi, sd)) (ev_var rfl) (ep_c1 (sp := spSides) (ea_cons ew ea_nil) fun H7 e7 Q q => ⟨wa, _, rfl, e7 _ _ hwa, wok.2.2, q⟩))) (fun hb H7 e7 => ?_) (fun hb H7 e7 => ?_)
          · rw [Bool.and_eq_true, decide_eq_true_eq, decide_eq_true_eq] at hb
            obtain ⟨h1, h2⟩ := hb
            have ho : (lo : Int) + (hi : Int) - (u : Int) = ((oth (lo, hi, sd) u : Nat) : Int) := by
              show _ = ((lo + hi - u : Nat) : Int)
              rcases oth_end h2 with ⟨e, _⟩ | ⟨e, _⟩
              · have e : u = lo := e
                omega
              · have e : u = hi := e
                omega
            refine q_asg (v := iN (oth (lo, hi, sd) u)) (ev_is (ev_op (ev_op (ev_var rfl) (ev_var rfl) rv_I0) (ev_var rfl) rv_I0) (by rw [ho])) fun H8 e8 => ?_
            have e68 := (e6.trans e7).trans e8
            have un := min_un (plus_min lv md)
            refine s_if (et_is (et_dnin (k := kI (oth (lo, hi, sd) u)) (ev_var rfl) (ev_var rfl) (e68 _ _ hfo5)) (by rw [dK_in un])) (fun hb H9 e9 => ?_) (fun hb H9 e9 => ?_)
            · have hn : oth (lo, hi, sd) u ∉ (plus fs d ls).map Prod.fst := by
                rw [Bool.not_eq_true'] at hb
                exact of_decide_eq_false hb
              have e59 := e68.trans e9
              have few := min_few yd.good (plus_min lv md) (by rw [plus_fst]; exact md.nd)
              have lfew : ls.length ≤ (plus fs d ls).length := by unfold plus; rw [List.length_append, List.length_map]; omega
              have hud : valV (dK (plus fs d ls)) (kI u) = some (iN d) := valV_dK un (List.mem_append_left _ (lv.all u d (Nat.le_refl _) hum))
              refine q_dput (a := fo) (k := kI (oth (lo, hi, sd) u)) (v := iN (d + 1)) (ev_op (ev_dget (k := kI u) (ev_var rfl) (ev_var rfl) (e59 _ _ hfo5) hud) ev_c rv_I0) (ev_var rfl) (ev_var rfl) (e59 _ _ hfo5) (by rw [dK_len]; omega) fun H10 e10 => ?_
              rw [putK_new _ (valV_dKn hn)]
              have e5a := e59.trans e10
              have hfb : hide H2 fo fo = none := hide_none
              refine s_app (l := la) (xs := LN ls) (by rw [upd_ne nefl]; exact e5a _ _ hla5) (ev_var rfl) (ev_var rfl) (by rw [LN_len]; omega) fun H11 e11 => ?_
              refine ⟨ls ++ [oth (lo, hi, sd) u], _, _, _, _, rfl, Ex.mut ((Ex.mut (e5.trans e5a) hfb).trans e11) nlaB, ?_, by rw [upd_same, LN_snoc], md.more lv hum hql hqw h2 hn, fun i' hi' u' hu' k' hk' w' hw' hs' => ?_, ?_⟩
              · rw [upd_ne (Ne.symm nefl), e11 _ _ upd_same, plus_snoc]
                unfold dK
                rw [List.map_append]
                rfl
              · have := cov i' hi' u' hu' k' hk' w' hw' hs'
                rw [plus_snoc, List.map_append]
                exact List.mem_append_left _ this
              · refine pend true rfl (fun _ => ?_) (fun x hx => ?_)
                · rw [plus_snoc, List.map_append]
                  exact List.mem_append_right _ (by simp)
                · rw [plus_snoc, List.map_append]
                  exact List.mem_append_left _ hx
            · have hin : oth (lo, hi, sd) u ∈ (plus fs d ls).map Prod.fst := by
                rw [Bool.not_eq_false'] at hb
                exact of_decide_eq_true hb
              have e59 := e68.trans e9
              exact ⟨ls, _, _, _, _, rfl, e5.trans e59, e59 _ _ hfo5, e59 _ _ hla5, md, cov, pend true rfl (fun _ => hin) fun x hx => hx⟩
          · have e57 := e6.trans e7
            refine ⟨ls, _, _, _, _, rfl, e5.trans e57, e57 _ _ hfo5, e57 _ _ hla5, md, cov, pend true rfl (fun hs => ?_) fun x hx => hx⟩
            exfalso
            have h1 : u ∈ [lo, hi] := by
              rcases oth_end hs with ⟨e, _⟩ | ⟨e, _⟩
              · have e : u = lo := e
                simp [e]
              · have e : u = hi := e
                simp [e]
            rw [decide_eq_true h1, decide_eq_true hs] at hb
            exact absurd hb (by decide)
        · rintro σ' H5 ⟨ls, o6, o7, o8, o9, rfl, e5, hfo5, hla5, md, cov, cv2⟩
          refine ⟨ls, _, _, _, _, _, rfl, e5, hfo5, hla5, md, fun i' hi' u' hu2 k' hk' w' hw' hs' => ?_⟩
          by_cases ei : i' = i
          · subst ei
            rw [hu'] at hu2
            cases hu2
            obtain ⟨m, hm, e⟩ := List.getElem_of_mem hk'
            exact cv2 m (by rw [LN_len]; exact hm) k' (by rw [List.getElem?_eq_getElem hm, e]) w' hw' hs'
          · exact cov i' (by omega) u' hu2 k' hk' w' hw' hs'
      · rintro σ' H4 ⟨ls, o5, o6, o7, o8, o9, rfl, e4, hfo4, hla4, md, cov⟩
        refine s_asg (ev_var rfl) fun H5 e5 => ⟨ls, la, _, _, _, _, _, _, rfl, (eB.trans e4).trans e5, e5 _ _ hfo4, e5 _ _ hla4, lv.next md fun u hu k' hk' w' hw' hs' => ?_⟩
        obtain ⟨m, hm, e⟩ := List.getElem_of_mem hu
        exact cov m (by rw [LN_len]; exact hm) u (by rw [List.getElem?_eq_getElem hm, e]) k' hk' w' hw' hs'
    · have he : es = [] := by simpa using hb
      subst he
      exact s_ret (ev_var rfl) fun H3 e3 => k fs fo H3 ((e1.trans e2).trans e3) (e3 _ _ (e2 _ _ hfo)) lv.fin
end
end WL


set_option Elab.async false
set_option linter.all false
set_option maxRecDepth 100000
set_option maxHeartbeats 4000000
/-! Least numbers from the end, the late plan, masons for. -/
namespace WL
open PySem PySem.Spec PyProof.Rows L2 Evl WM
section
variable {K : PySem.W.Frag} {σ : L2.St} {H : Hp} {ta tb te : TE} {D : Ends} {tz : TS} {x z : V}
theorem ca2' {xs : List V} (h1 : EvP ta σ H xs) (h2 : Ev tb σ H x) {H1 : Hp} (e : Ex H H1) {Q : List V → Hp → Prop} (q : ∀ p H2, Ex H1 H2 → H2 p = some (.tup xs) → Q [.ref p, x] H2) : tCons ta (tCons tb tNil) σ H1 Q :=
  h1 H1 e _ fun p H2 e2 hp => h2 H2 (e.trans e2) _ fun H3 e3 => q p H3 (e2.trans e3) (e3 _ _ hp)
theorem ep_c2' {sp : Sp} {xs ys : List V} (h1 : EvP ta σ H xs) (h2 : Ev tb σ H x) (hs : ∀ p H1, Ex H H1 → H1 p = some (.tup xs) → ∀ Q : VK, RetU ys H1 Q → sp [.ref p, x] H1 Q L2.E0) : EvP (tCall sp [] L2.E0 (tCons ta (tCons tb tNil))) σ H ys := fun H1 e Q q =>
  ca2' h1 h2 e fun p H2 e2 hp => hs p H2 (e.trans e2) hp Q fun r H3 e3 h3 => q r H3 (e2.trans e3) h3
theorem ev_minL {p : Addr} {ns : List Int} {m : Int} (ha : Ev ta σ H (.ref p)) (hp : H p = some (.lst (ns.map V.int))) (hm : m ∈ ns) (hl : ∀ y ∈ ns, m ≤ y) : Ev (tCB (rMin K) (tCons ta tNil)) σ H (.int m) := fun H1 e Q q =>
  ha H1 e _ fun H2 e2 => ⟨p, ns, rfl, sq_of (e2 _ _ (e _ _ hp)), List.length_pos_of_mem hm, fun m' h1 h2 => by
    have : m' = m := Int.le_antisymm (h2 m hm) (hl m' h1)
    rw [this]
    exact q H2 e2⟩
theorem ev_maxL {ns : List Int} {m : Int} (ha : EvL ta σ H (ns.map V.int)) (hm : m ∈ ns) (hl : ∀ y ∈ ns, y ≤ m) : Ev (tCB (rMax K) (tCons ta tNil)) σ H (.int m) := fun H1 e Q q =>
  ha H1 e _ fun p H2 _ e2 hp => ⟨p, ns, rfl, sq_of hp, List.length_pos_of_mem hm, fun m' h1 h2 => by
    have : m' = m := Int.le_antisymm (hl m' h1) (h2 m hm)
    rw [this]
    exact q H2 e2⟩
end
theorem s_retTL {K : PySem.W.Frag} {σ : L2.St} {H : Hp} {te : TE} {D : Ends} {ls : List (List Nat)} (h : EvLL te σ H ls) (k : ∀ p us H1, Ex H H1 → H1 p = some (.tup us) → Lots H1 us ls → D.rt (.ref p) H1) : tRet (tCB (rTupOf K) (tCons te tNil)) D σ H :=
  h H (Ex.refl H) _ fun p us H6 hp e6 h6' hls => ⟨p, us, rfl, Or.inl ⟨sq_of h6', fun l nl => k l us _ (e6.trans (Ex.new nl)) upd_same (hls.ext (Ex.new nl))⟩⟩
theorem LN_map {α : Type} (f : α → Nat) (l : List α) : (l.map fun x => iN (f x)) = LN (l.map f) := by
  show _ = List.map iN (List.map f l)
  rw [List.map_map]
  rfl
theorem LN_ints (l : List Nat) : LN l = (l.map fun n : Nat => (n : Int)).map V.int := (LN_eq l).symm
open Classical in
/-- the second of the first pair of a room -/
noncomputable def dep (fs : List (Nat × Nat)) (r : Nat) : Nat := if h : ∃ e, (r, e) ∈ fs then choose h else 0
theorem dep_in {fs : List (Nat × Nat)} {r e : Nat} (h : (r, e) ∈ fs) : (r, dep fs r) ∈ fs := by
  unfold dep
  rw [dif_pos ⟨e, h⟩]
  exact Classical.choose_spec (⟨e, h⟩ : ∃ e, (r, e) ∈ fs)
open Classical in
/-- a wall's least number, from 1 -/
noncomputable def bno (ws : List Wl) (k : Nat) : Nat := if h : ∃ b, MinB ws k b then choose h + 1 else 0
theorem bno_eq {ws : List Wl} {k b : Nat} (h : MinB ws k b) : bno ws k = b + 1 := by
  unfold bno
  rw [dif_pos ⟨b, h⟩]
  rw [(Classical.choose_spec (⟨b, h⟩ : ∃ b, MinB ws k b)).uniq h]
/-- all numbers of a yard are below m, and the one ahead of m is one -/
def Most (ws : List Wl) (m : Nat) : Prop := (∀ k b, MinB ws k b → b < m) ∧ (m = 0 ∨ ∃ k, MinB ws k (m - 1))
theorem Top.most {ws : List Wl} {c : Nat} (h : Top ws c) : Most ws (c + 1) := ⟨fun k b hb => Nat.lt_succ_of_le (h.2 k b hb), Or.inr h.1⟩
theorem most_nil : Most [] 0 := ⟨fun k b h => by have := bk_lt h.1; exact absurd this (Nat.not_lt_zero _), Or.inl rfl⟩
noncomputable def plan (ws : List Wl) (m : Nat) : List (List Nat) := (List.range m).map fun i => level ws (m - 1 - i)
/- 0 yard, 1 number, 2 found, 3 some, 4 side -/
theorem sc_least_back_of : FnScope ["yard", "number", "found", "some", "side"] ["yard", "number"] (tScope 25) := ⟨rfl, rfl, rfl, by decide +kernel, rfl, by decide +kernel, by decide +kernel⟩
/- 0 yard, 1 number -/
theorem sc_least_back : FnScope ["yard", "number"] ["yard", "number"] (tScope 26) := ⟨rfl, rfl, rfl, by decide +kernel, rfl, by decide +kernel, by decide +kernel⟩
/- 0 yard, 1 told, 2 number, 3 most, 4 one, 5 day -/
theorem sc_late_plan : FnScope ["yard", "told", "number", "most", "one", "day"] ["yard"] (tScope 32) := ⟨rfl, rfl, rfl, by decide +kernel, rfl, by decide +kernel, by decide +kernel⟩
/- 0 yard, 1 days, 2 masons, 3 many -/
theorem sc_masons_for : FnScope ["yard", "days", "masons", "many"] ["yard", "days"] (tScope 33) := ⟨rfl, rfl, rfl, by decide +kernel, rfl, by decide +kernel, by decide +kernel⟩
def spBackOf : Sp := fun vs H Q _ => ∃ (y : Addr) (n : Nat) (ws : List Wl) (k b : Nat), vs = [.ref y, iN k] ∧ Y H y n ws ∧ Yd n ws ∧ k < ws.length ∧ MinB ws k b ∧ RetV (iN (b + 1)) H Q
/-- a tuple of lots -/
def RetTL (ls : List (List Nat)) (H : Hp) (Q : VK) : Prop := ∀ p us H2, Ex H H2 → H2 p = some (.tup us) → Lots H2 us ls → Q (.ref p) H2
def spLate : Sp := fun vs H Q _ => ∃ (y : Addr) (n : Nat) (ws : List Wl), vs = [.ref y] ∧ Y H y n ws ∧ Yd n ws ∧ (¬ Leaves ws → RetV .non H Q) ∧ ∀ m, Leaves ws → Most ws m → RetTL (plan ws m) H Q
def spMasons : Sp := fun vs H Q _ => ∃ (y : Addr) (n : Nat) (ws : List Wl) (D : Nat), vs = [.ref y, iN D] ∧ Y H y n ws ∧ Yd n ws ∧ D ≤ 12 ∧ (ws = [] → RetV (iN 1) H Q) ∧ (¬ Leaves ws → RetV .non H Q) ∧
  (∀ (i : Nat) (ds : Nat → Nat), Leaves ws → ws ≠ [] → i < ws.length → (∀ j, j ≤ i → DaysP ws (j + 1) (ds (j + 1))) → ds (i + 1) ≤ D → (∀ j, j < i → ¬ ds (j + 1) ≤ D) → RetV (iN (i + 1)) H Q) ∧
  ∀ ds : Nat → Nat, Leaves ws → ws ≠ [] → (∀ j, j < ws.length → DaysP ws (j + 1) (ds (j + 1)) ∧ ¬ ds (j + 1) ≤ D) → RetV .non H Q
section
variable {P : Program} {w : World} {K : PySem.W.Frag} {mg : Str → Option Value} {base : Heap}
theorem ok_least_back_of (g_depths : Cal P w K mg base 2 "depths" spDepths) (g_without : Cal P w K mg base 1 "without" spWithout) (g_every : Cal P w K mg base 1 "every" spEvery) (g_sides_of : Cal P w K mg base 1 "sides_of" spSides) (T : Tx K mg) (D : Df K mg "least_back_of" 25) : Cal P w K mg base 3 "least_back_of" spBackOf := by
  refine D.cal sc_least_back_of (fun vs H Q E h => ?_) (fun _ _ _ _ _ _ us hl => match us, hl with | [_, _], _ => rfl) (fun f cdv A outer s H vs Q E hr h => ?_)
  · obtain ⟨y, n, ws, k, b, rfl, _⟩ := h
    rfl
  · obtain ⟨y, n, ws, m, b, rfl, hy, yd, hm, mb, k⟩ := h
    have hr64 := hr.units
    have hu : (A.deeper (envOfC "least_back_of" (tScope 25) s.heap.objs.size f cdv)).units + 1 < cLine := by omega
    refine ⟨_, (pss_cons (ps_set (i := 2) sc_least_back_of.nd rfl (by first | exact Or.inl rfl | exact Or.inr rfl) (pcall g_depths hr (by decide) rfl (pa_cons (pv 0) (pa_cons (pcall g_without hr (by decide) rfl (pa_cons (pcall g_every hr (by decide) rfl (pa_cons (pv 0) pa_nil)) (pa_cons (pv 1) pa_nil))) pa_nil))))
      (pss_cons (ps_setLc (i := 3) (own := [("side", 4)]) (g := gName 4) rfl sc_least_back_of.nd rfl rfl (sw_true rfl rfl rfl (by decide +kernel)) (k_pt (K := K) rfl (pcall g_sides_of hr (by decide) rfl (pa_cons (pe_ix (k_ixT (K := K) rfl) (pe_ix (k_ixT (K := K) rfl) (pv 0) pe_int (fun _ _ => rfl)) (pv 1) (fun _ _ => rfl)) pa_nil))) (blkOk_by (by kernel_rfl)) (fun _ _ _ _ _ => pg_name (i := 4) sc_least_back_of.nd rfl (by first | exact Or.inl rfl | exact Or.inr rfl)) (fun _ _ _ _ _ => pts_one (pt_cmp (pc_din hu (pv 4) (pv 2)))) (fun _ _ _ _ _ => (pe_dget hu (pv 2) (pv 4) (fun _ _ => rfl))))
      (pss_one (ps_ret (pe_ifExp (pt_cmpR (k_neD (K := K) rfl hr64) (pv 3) (pe_lst pa_nil) (nomark _)) (pe_op op_add pe_int (pe_callB (k_min (K := K) rfl rfl) (by rfl) T.b_min (by decide +kernel) (pa_cons (pv 3) pa_nil))) pe_non))))), ?_⟩
    have h6 := yd.few
    have evl : (evy ws).length ≤ 6 := by unfold evy; rw [List.length_range]; exact h6
    refine q_call2 (x := .ref y) (ev_var rfl) (ep_c2' (sp := spWithout) (xs := LN (evy ws)) (ys := LN (but ws m)) (x := iN m) (ep_every hy h6 (ev_var rfl)) (ev_var rfl) fun p H1 e1 hp Q q => ⟨p, evy ws, m, rfl, evl, hp, q⟩) fun p H1 e1 hp => ?_
    refine ⟨y, p, n, ws, but ws m, rfl, hy.ext e1, yd, hp, but_lt, fun fs fo H2 e2 hfo hfs => ?_⟩
    have e12 := e1.trans e2
    obtain ⟨wl, hw⟩ : ∃ wl, ws[m]? = some wl := ⟨_, List.getElem?_eq_getElem hm⟩
    obtain ⟨wa, hwa, ew⟩ := ev_wall (K := K) (σ := [some (.ref y), some (iN m), some (.ref fo), none, none]) (ta := tVar 0) (tb := tC (.int 1)) (tc := tVar 1) (hy.ext e12) hw (ev_var rfl) ev_c (ev_var rfl)
    have un : ∀ p ∈ fs, ∀ q ∈ fs, p.1 = q.1 → p.2 = q.2 := min_un fun p hp => (hfs p.1 p.2).mp hp
    have z : (sides wl).length ≤ 40000 := by unfold sides; split <;> (try split) <;> simp
    have lc := el_nat (K := K) (σ := [some (.ref y), some (iN m), some (.ref fo), none, none]) (H := H2) (l := sides wl) (j := 4) (vs := [4]) (t := tTest (tDIn (tVar 4) (tVar 2))) (te := tDGet (tVar 2) (tVar 4)) (fun r => decide (r ∈ fs.map Prod.fst)) (fun r => iN (dep fs r)) (ep_c1 (sp := spSides) (ea_cons ew ea_nil) fun H4 e4 Q q => ⟨wa, wl, rfl, e4 _ _ hwa, (yd.ok hw).2.2, q⟩) z (fun _ => rfl)
      (fun r hr' H3 e3 => et_is (et_din (k := kI r) (ev_var rfl) (ev_var rfl) (e3 _ _ hfo)) (dK_in un r)) (fun r hr' hf H3 e3 => ev_dget (k := kI r) (ev_var rfl) (ev_var rfl) (e3 _ _ hfo) (by
        obtain ⟨⟨r', e⟩, hp, rfl⟩ := List.mem_map.mp (of_decide_eq_true hf)
        exact valV_dK un (dep_in hp)))
    have lc' := el_is lc (LN_map (dep fs) _)
    refine q_asgL lc' fun sa H3 _ e3 hsa => ?_
    -- the least
    obtain ⟨⟨wl', r0, hw', hr0, p0⟩, mn⟩ := mb
    rw [hw] at hw'
    cases hw'
    have key : ∀ r e, r ∈ sides wl → (r, e) ∈ fs → b ≤ e := fun r e h1 h2 => by
      by_cases c : e < b
      · exact absurd ⟨wl, r, hw, h1, ((hfs r e).mp h2).1⟩ (mn e c)
      · omega
    obtain ⟨e0, he0, me0⟩ := MinD.of p0
    have f0 : (r0, e0) ∈ fs := (hfs r0 e0).mpr me0
    have eb : e0 = b := by have := key r0 e0 hr0 f0; omega
    subst eb
    have d0 : dep fs r0 = e0 := un _ (dep_in f0) _ f0 rfl
    have mem : e0 ∈ ((sides wl).filter fun r => decide (r ∈ fs.map Prod.fst)).map (dep fs) := List.mem_map.mpr ⟨r0, List.mem_filter.mpr ⟨hr0, decide_eq_true (List.mem_map.mpr ⟨_, f0, rfl⟩)⟩, d0⟩
    have low : ∀ x ∈ ((sides wl).filter fun r => decide (r ∈ fs.map Prod.fst)).map (dep fs), e0 ≤ x := fun x hx => by
      obtain ⟨r, hr', rfl⟩ := List.mem_map.mp hx
      obtain ⟨h1, h2⟩ := List.mem_filter.mp hr'
      obtain ⟨⟨r', e⟩, hp, rfl⟩ := List.mem_map.mp (of_decide_eq_true h2)
      exact key _ _ h1 (dep_in hp)
    refine s_ret (v := iN (e0 + 1)) (ev_if (b := true) (et_is (et_test (ev_neVL (ev_var rfl) hsa el_none)) ?_) (fun _ => ?_) (fun h => absurd h (by decide))) fun H4 e4 => k H4 ((e12.trans e3).trans e4)
    · rw [decide_eq_false (fun h => by rw [h] at mem; exact List.not_mem_nil mem)]
      rfl
    · refine ev_is (ev_op ev_c (ev_minL (m := (e0 : Int)) (ev_var rfl) (by rw [hsa, LN_ints]) (List.mem_map.mpr ⟨e0, mem, rfl⟩) (fun y hy => ?_)) rv_I0) (by show V.int _ = V.int _; congr 1; omega)
      obtain ⟨x, hx, rfl⟩ := List.mem_map.mp hy
      have := low x hx
      omega
theorem ok_least_back (g_need_yard : Cal P w K mg base 4 "need_yard" spNeedYard) (g_need_wall : Cal P w K mg base 3 "need_wall" spNeedWall) (g_least_back_of : Cal P w K mg base 3 "least_back_of" spBackOf) (D : Df K mg "least_back" 26) : Cal P w K mg base 5 "least_back" spBackOf := by
  refine D.cal sc_least_back (fun vs H Q E h => ?_) (fun _ _ _ _ _ _ us hl => match us, hl with | [_, _], _ => rfl) (fun f cdv A outer s H vs Q E hr h => ?_)
  · obtain ⟨y, n, ws, k, b, rfl, _⟩ := h
    rfl
  · obtain ⟨y, n, ws, m, b, rfl, hy, yd, hm, mb, k⟩ := h
    refine ⟨_, (pss_cons (ps_expr (pcall g_need_yard hr (by decide) rfl (pa_cons (pv 0) pa_nil)))
      (pss_cons (ps_expr (pcall g_need_wall hr (by decide) rfl (pa_cons (pv 0) (pa_cons (pv 1) pa_nil))))
      (pss_one (ps_ret (pcall g_least_back_of hr (by decide) rfl (pa_cons (pv 0) (pa_cons (pv 1) pa_nil))))))), ?_⟩
    refine q_exp (ea_cons (ev_var rfl) ea_nil) (fun H1 e1 Q q => ⟨y, n, ws, rfl, hy.ext e1, yd, q⟩) fun H1 e1 => ?_
    refine q_exp (ea_cons (ev_var rfl) (ea_cons (ev_var rfl) ea_nil)) (fun H2 e2 Q q => ⟨y, n, ws, m, rfl, (hy.ext e1).ext e2, hm, q⟩) fun H2 e2 => ?_
    have e12 := e1.trans e2
    exact s_ret (v := iN (b + 1)) (ev_c1 (sp := spBackOf) (ea_cons (ev_var rfl) (ea_cons (ev_var rfl) ea_nil)) fun H3 e3 Q q => ⟨y, n, ws, m, b, rfl, (hy.ext e12).ext e3, yd, hm, mb, q⟩) fun H4 e4 => k H4 (e12.trans e4)
theorem ok_late_plan (g_need_yard : Cal P w K mg base 4 "need_yard" spNeedYard) (g_is_growth : Cal P w K mg base 3 "is_growth" spGrowth) (g_every : Cal P w K mg base 1 "every" spEvery) (g_least_back_of : Cal P w K mg base 3 "least_back_of" spBackOf) (T : Tx K mg) (D : Df K mg "late_plan" 32) : Cal P w K mg base 5 "late_plan" spLate := by
  refine D.cal sc_late_plan (fun vs H Q E h => ?_) (fun _ _ _ _ _ _ us hl => match us, hl with | [_], _ => rfl) (fun f cdv A outer s H vs Q E hr h => ?_)
  · obtain ⟨y, n, ws, rfl, _⟩ := h
    rfl
  · obtain ⟨y, n, ws, rfl, hy, yd, k0, k1⟩ := h
    refine ⟨_, (pss_cons (ps_expr (pcall g_need_yard hr (by decide) rfl (pa_cons (pv 0) pa_nil)))
      (pss_cons (ps_if (pt_not (pt_val (pcall g_is_growth hr (by decide) rfl (pa_cons (pv 0) (pa_cons (pcall g_every hr (by decide) rfl (pa_cons (pv 0) pa_nil)) pa_nil))))) (pss_one (ps_ret pe_non)) pss_nil)
      (pss_cons (ps_set (i := 1) sc_late_plan.nd rfl (by first | exact Or.inl rfl | exact Or.inr rfl) (pe_lc (own := [("number", 2)]) (g := gName 2) rfl sc_late_plan.nd (k_pt (K := K) rfl (pcall g_every hr (by decide) rfl (pa_cons (pv 0) pa_nil))) (blkOk_by (by kernel_rfl)) (fun _ _ _ _ _ => pg_name (i := 2) sc_late_plan.nd rfl (by first | exact Or.inl rfl | exact Or.inr rfl)) (fun _ _ _ _ _ => pts_nil) (fun _ _ _ _ _ => (pcall g_least_back_of hr (by decide) rfl (pa_cons (pv 0) (pa_cons (pv 2) pa_nil))))))
      (pss_cons (ps_set (i := 3) sc_late_plan.nd rfl (by first | exact Or.inl rfl | exact Or.inr rfl) (pe_callB (k_max (K := K) rfl rfl) (by rfl) T.b_max (by decide +kernel) (pa_cons (pe_lst (pa_cons pe_int (k_star (K := K) rfl (pv 1) pa_nil))) pa_nil)))
      (pss_one (ps_ret (pe_callTy (k_tupOf (K := K) rfl) (by rfl) T.b_tuple (by decide +kernel) (pa_cons (pe_lc (own := [("day", 5)]) (g := gName 5) rfl sc_late_plan.nd (pi_range3 (by rfl) T.b_range (pa_cons (pv 3) (pa_cons pe_int (pa_cons (pe_un un_neg pe_int) pa_nil)))) (blkOk_by (by kernel_rfl)) (fun _ _ _ _ _ => pg_name (i := 5) sc_late_plan.nd rfl (by first | exact Or.inl rfl | exact Or.inr rfl)) (fun _ _ _ _ _ => pts_nil) (fun _ _ _ _ _ => (pe_callTy (k_tupOf (K := K) rfl) (by rfl) T.b_tuple (by decide +kernel) (pa_cons (pe_lc (own := [("one", 4)]) (g := gName 4) rfl sc_late_plan.nd (k_pt (K := K) rfl (pcall g_every hr (by decide) rfl (pa_cons (pv 0) pa_nil))) (blkOk_by (by kernel_rfl)) (fun _ _ _ _ _ => pg_name (i := 4) sc_late_plan.nd rfl (by first | exact Or.inl rfl | exact Or.inr rfl)) (fun _ _ _ _ _ => pts_one (pt_cmpR op_eq (pe_ix (k_ixL (K := K) rfl) (pv 1) (pv 4) (fun _ _ => rfl)) (pv 5) (nomark _))) (fun _ _ _ _ _ => (pv 4))) pa_nil)))) pa_nil)))))))), ?_⟩
    have h6 := yd.few
    have evl : (evy ws).length ≤ 6 := by unfold evy; rw [List.length_range]; exact h6
    refine q_exp (ea_cons (ev_var rfl) ea_nil) (fun H1 e1 Q q => ⟨y, n, ws, rfl, hy.ext e1, yd, q⟩) fun H1 e1 => ?_
    refine q_when (et_not (et_B (ev_c2 (sp := spGrowth) (z := .bl (growth ws (evy ws))) (x := .ref y) (ev_var rfl) (ep_every (hy.ext e1) h6 (ev_var rfl)) fun p H3 e3 hp Q q => ⟨y, p, n, ws, evy ws, rfl, (hy.ext e1).ext e3, yd, hp, evl, fun x hx => mem_evy.mp hx, q⟩))) (fun hb H3 e3 => ?_) (fun hb H3 e3 => ?_)
    · refine s_ret ev_c fun H4 e4 => k0 (fun lv => ?_) H4 ((e1.trans e3).trans e4)
      rw [growth_evy.mpr lv] at hb
      cases hb
    have lv : Leaves ws := growth_evy.mp (by simpa using hb)
    have e13 := e1.trans e3
    obtain ⟨m, hmost⟩ : ∃ m, Most ws m := by
      by_cases c : ws = []
      · subst c
        exact ⟨0, most_nil⟩
      · obtain ⟨c', h⟩ := Top.ex lv c
        exact ⟨c' + 1, Top.most h⟩
    have bm : ∀ k, k < ws.length → ∃ b, MinB ws k b ∧ bno ws k = b + 1 ∧ b < m := fun k hk => by
      obtain ⟨b, hb⟩ := lv.bk hk
      exact ⟨b, hb, bno_eq hb, hmost.1 k b hb⟩
    have m9 : m ≤ 9 := by
      rcases hmost.2 with h | ⟨k, h⟩
      · omega
      · obtain ⟨wl, r, hw, hr', p⟩ := h.1
        by_cases c : m = 0
        · omega
        · obtain ⟨e, he, me⟩ := MinD.of p
          have : ¬ e < m - 1 := fun c => h.2 e c ⟨wl, r, hw, hr', me.1⟩
          have := me.lt yd.good
          have := yd.rooms
          omega
    refine q_asgL (xs := LN ((evy ws).map (bno ws))) (el_is (el_nat (l := evy ws) (fun _ => true) (fun k => iN (bno ws k)) (ep_every (hy.ext e13) h6 (ev_var rfl)) (by omega) (fun _ => rfl) (fun _ _ _ _ => et_yes) (fun x hx _ H4 e4 => ?_)) (by rw [filter_yes, LN_map])) fun ta H4 _ e4 hta => ?_
    · obtain ⟨b, hb, e, _⟩ := bm x (mem_evy.mp hx)
      rw [e]
      exact ev_c1 (sp := spBackOf) (ea_cons (ev_var rfl) (ea_cons (ev_var rfl) ea_nil)) fun H5 e5 Q q => ⟨y, n, ws, x, b, rfl, ((hy.ext e13).ext e4).ext e5, yd, mem_evy.mp hx, hb, q⟩
    have e14 := e13.trans e4
    have star : EvL (tLst (tCons (tC (.int 0)) (StX.tStar K (tVar 1) tNil))) [some (.ref y), some (.ref ta), none, none, none, none] H4 (((0 : Int) :: ((evy ws).map (bno ws)).map fun n : Nat => (n : Int)).map V.int) := fun H5 e5 Q q =>
      ⟨.ref ta, rfl, ta, LN ((evy ws).map (bno ws)), rfl, Or.inr (sq_of (e5 _ _ hta)), by
        show _ ∧ _
        refine ⟨?_, fun p hp => q p _ hp (Ex.new hp) ?_⟩
        · show (V.int 0 :: (LN ((evy ws).map (bno ws)) ++ [])).length ≤ sizeLine
          rw [List.append_nil, List.length_cons, LN_len, List.length_map]
          exact sz_of (by omega)
        · rw [upd_same, List.map_cons, LN_eq, List.append_nil]
          ⟩
    refine q_asg (v := iN m) (ev_maxL (m := (m : Int)) star ?_ fun y hy => ?_) fun H5 e5 => ?_
    · rcases hmost.2 with h | ⟨k, h⟩
      · subst h
        exact List.mem_cons_self ..
      · by_cases c : m = 0
        · subst c
          exact List.mem_cons_self ..
        · refine List.mem_cons_of_mem _ (List.mem_map.mpr ⟨m, List.mem_map.mpr ⟨k, mem_evy.mpr (bk_lt h.1), ?_⟩, rfl⟩)
          rw [bno_eq h]
          omega
    · rcases List.mem_cons.mp hy with h | h
      · rw [h]
        omega
      · obtain ⟨x, hx, rfl⟩ := List.mem_map.mp h
        obtain ⟨k, hk, rfl⟩ := List.mem_map.mp hx
        obtain ⟨b, _, e, hb⟩ := bm k (mem_evy.mp hk)
        rw [e]
        omega
    have e15 := e14.trans e5
    have inner : EvLL (tLc (iRng3 (tCons (tVar 3) (tCons (tC (.int 0)) (tCons (tUn (rU fun i => .int (-i)) (tC (.int 1))) tNil)))) (gName 5) tYes (tCB (rTupOf K) (tCons (tLc (iTup K (tCall spEvery [] L2.E0 (tCons (tVar 0) tNil))) (gName 4) (tTest (tOp rEq (tOp (rIxL K) (tVar 1) (tVar 4)) (tVar 5))) (tVar 4) [4]) tNil)) [5]) [some (.ref y), some (.ref ta), none, some (iN m), none, none] H5 (plan ws m) := by
      refine ell_R3 (m := m) (fun i => level ws (m - 1 - i)) (ea_cons (ev_var rfl) (ea_cons ev_c (ea_cons (ev_un ev_c ru_neg) ea_nil))) (by omega) (fun _ => rfl) (fun i hi H6 e6 => ?_)
      have e16 := e15.trans e6
      refine EvP.of (eu_tupL (el_is (el_nat (l := evy ws) (fun k => decide (bno ws k = m - i)) iN (ep_every (hy.ext e16) h6 (ev_var rfl)) (by omega) (fun _ => rfl) (fun x hx H7 e7 => ?_) (fun x hx _ H7 e7 => ev_var rfl)) ?_))
      · refine et_is (et_test (ev_op (ev_ixL (v := iN (bno ws x)) (ev_var rfl) (ev_var rfl) (e7 _ _ (e6 _ _ (e5 _ _ hta))) (atI_nat (LN_get ?_))) (ev_var rfl) (rv_eq rfl))) ?_
        · rw [List.getElem?_map]
          unfold evy
          rw [List.getElem?_range (mem_evy.mp hx)]
          rfl
        · exact decide_eq_decide.mpr ⟨fun h => by injection h with h; omega, fun h => by rw [h]⟩
      · congr 1
        unfold level
        refine List.filter_congr fun k hk => ?_
        obtain ⟨b, hb, e, _⟩ := bm k (mem_evy.mp hk)
        rw [e]
        by_cases c : MinB ws k (m - 1 - i)
        · have := hb.uniq c
          rw [@decide_eq_true _ (Classical.propDecidable _) c]
          exact decide_eq_true (by omega)
        · rw [@decide_eq_false _ (Classical.propDecidable _) c]
          refine decide_eq_false fun h => c ?_
          have : m - 1 - i = b := by omega
          rw [this]
          exact hb
    exact s_retTL inner fun p us H6 e6 hp hls => k1 m lv hmost p us H6 (e15.trans e6) hp hls
theorem ev_y1w {σ : L2.St} {H : Hp} {ta tb : TE} {n : Nat} {ws : List Wl} {y : Addr} (h : Y H y n ws) (ha : Ev ta σ H (.ref y)) (hb : Ev tb σ H (.int 1)) :
    ∃ (wa : Addr) (as : List Addr), H wa = some (.tup (as.map V.ref)) ∧ as.length = ws.length ∧ (∀ (i : Nat) (a : Addr) (w : Wl), as[i]? = some a → ws[i]? = some w → WAt H a w) ∧ Ev (tOp (rIxT K) ta tb) σ H (.ref wa) := by
  obtain ⟨wa, as, h1, h2, h3, h4⟩ := h.ex
  exact ⟨wa, as, h2, h3, h4, ev_ixT ha hb h1 (atI_nat (j := 1) rfl)⟩
theorem tri_lots {H : Hp} {as : List Addr} {ws : List Wl} (hl : as.length = ws.length) (h : ∀ (i : Nat) (a : Addr) (w : Wl), as[i]? = some a → ws[i]? = some w → WAt H a w) : Lots H (as.map V.ref) (ws.map fun w => [w.1, w.2.1, w.2.2]) := by
  induction as generalizing ws with
  | nil =>
    cases ws with
    | nil => exact .nil
    | cons w ws => cases hl
  | cons a as ih =>
    cases ws with
    | nil => cases hl
    | cons w ws => exact .cons ⟨a, rfl, h 0 a w rfl rfl⟩ (ih (by simpa using hl) fun i a' w' ha hw => h (i + 1) a' w' ha hw)
theorem ok_masons_for (g_need_yard : Cal P w K mg base 4 "need_yard" spNeedYard) (g_need_from : Cal P w K mg base 3 "need_from" spNeedFrom) (g_fewest_days : Cal P w K mg base 5 "fewest_days" spFewest) (T : Tx K mg) (D : Df K mg "masons_for" 33) : Cal P w K mg base 6 "masons_for" spMasons := by
  refine D.cal sc_masons_for (fun vs H Q E h => ?_) (fun _ _ _ _ _ _ us hl => match us, hl with | [_, _], _ => rfl) (fun f cdv A outer s H vs Q E hr h => ?_)
  · obtain ⟨y, n, ws, m, rfl, _⟩ := h
    rfl
  · obtain ⟨y, n, ws, m, rfl, hy, yd, m12, k0, k1, k2, k3⟩ := h
    have hr64 := hr.units
    refine ⟨_, (pss_cons (ps_expr (pcall g_need_yard hr (by decide) rfl (pa_cons (pv 0) pa_nil)))
      (pss_cons (ps_expr (pcall g_need_from hr (by decide) rfl (pa_cons (pv 1) (pa_cons pe_int (pa_cons (pcon rfl T.c_MOST_MASONS) pa_nil)))))
      (pss_cons (ps_if (pt_cmpR (k_eqD (K := K) rfl hr64) (pe_ix (k_ixT (K := K) rfl) (pv 0) pe_int (fun _ _ => rfl)) (pe_tup pa_nil) (nomark _)) (pss_one (ps_ret pe_int)) pss_nil)
      (pss_cons (ps_for PassesOwn.never rfl (pi_range2 (by rfl) T.b_range (pa_cons pe_int (pa_cons (pe_op op_add (pe_callB (k_len (K := K) rfl) (by rfl) T.b_len (by decide +kernel) (pa_cons (pe_ix (k_ixT (K := K) rfl) (pv 0) pe_int (fun _ _ => rfl)) pa_nil)) pe_int) pa_nil))) (pg_name (i := 2) sc_masons_for.nd rfl (by first | exact Or.inl rfl | exact Or.inr rfl))
        (pss_cons (ps_set (i := 3) sc_masons_for.nd rfl (by first | exact Or.inl rfl | exact Or.inr rfl) (pcall g_fewest_days hr (by decide) rfl (pa_cons (pv 0) (pa_cons (pv 2) pa_nil))))
        (pss_one (ps_if (PW.pt (pw_and (pt_cmpR op_notN (pv 3) pe_non (nomark _)) (pw_and1 (pt_cmpR op_le (pv 3) (pv 1) (nomark _))))) (pss_one (ps_ret (pv 2))) pss_nil))))
      (pss_one (ps_ret pe_non)))))), ?_⟩
    have h6 := yd.few
    refine q_exp (ea_cons (ev_var rfl) ea_nil) (fun H1 e1 Q q => ⟨y, n, ws, rfl, hy.ext e1, yd, q⟩) fun H1 e1 => ?_
    refine q_exp (ea_cons (ev_var rfl) (ea_cons ev_c (ea_cons ev_c ea_nil))) (fun H2 e2 Q q => ⟨m, 0, 12, rfl, by omega, by omega, q⟩) fun H2 e2 => ?_
    have e12 := e1.trans e2
    obtain ⟨wa, as, hwa, hlen, h4, ew⟩ := ev_y1w (K := K) (σ := [some (.ref y), some (iN m), none, none]) (ta := tVar 0) (tb := tC (.int 1)) (hy.ext e12) (ev_var rfl) ev_c
    have tri : Lots H2 (as.map V.ref) (ws.map fun w => [w.1, w.2.1, w.2.2]) := tri_lots hlen h4
    refine q_when (b := decide (ws = [])) (et_is (et_test (fun H3 e3 Q q => ew H3 e3 _ fun H4 e4 => ep_nil (H := H2) H4 (e3.trans e4) _ fun p H5 e5 hp => ⟨_, _, .tup (st_of (e5 _ _ (e4 _ _ (e3 _ _ hwa)))) (tri.ext ((e3.trans e4).trans e5)).data, dp_T hp, shaped_dTT _, shaped_dT _, q H5 (e4.trans e5)⟩)) ?_) (fun hb H3 e3 => ?_) (fun hb H3 e3 => ?_)
    · show PyData.eqvAll (dNN _) [] = _
      rw [eqv_nil]
      cases ws with
      | nil => rfl
      | cons w ws => rfl
    · exact s_ret (v := iN 1) ev_c fun H4 e4 => k0 (of_decide_eq_true hb) H4 ((e12.trans e3).trans e4)
    · have hne : ws ≠ [] := of_decide_eq_false hb
      have e13 := e12.trans e3
      refine q_forR2 (lo := 1) (n := (ws.length : Int) + 1) (ea_cons ev_c (ea_cons (ev_op (ev_ylen (hy.ext e13) (ev_var rfl) ev_c) ev_c rv_I0) ea_nil)) ⟨by decide, by decide, by omega, by omega⟩
        (fun i σ H' => ∃ o2 o3, σ = [some (.ref y), some (iN m), o2, o3] ∧ Ex H H' ∧ (Leaves ws → ∃ ds : Nat → Nat, ∀ j, j < i → DaysP ws (j + 1) (ds (j + 1)) ∧ ¬ ds (j + 1) ≤ m))
        (fun H4 e4 => ⟨_, _, rfl, e13.trans e4, fun _ => ⟨fun _ => 0, fun j hj => absurd hj (Nat.not_lt_zero _)⟩⟩) ?_ ?_
      · rintro i σ' H4 hi ⟨o2, o3, rfl, e4, pr⟩
        have hi' : i < ws.length := by omega
        have e0 : (1 : Int) + (i : Int) = ((i + 1 : Nat) : Int) := by omega
        rw [e0]
        show tSeq _ _ _ _ _
        by_cases lv : Leaves ws
        · -- the days
          obtain ⟨ds, hds⟩ := pr lv
          refine q_call (ea_cons (ev_var rfl) (ea_cons (ev_var rfl) ea_nil)) fun H5 e5 => ⟨y, n, ws, i + 1, rfl, hy.ext (e4.trans e5), yd, by omega, by omega, fun h => absurd lv h, fun d _ hd H6 e6 => ?_⟩
          have e46 := (e4.trans e5).trans e6
          have e46 : Ex H H6 := e46
          refine s_when (b := decide (d ≤ m)) (et_is (et_and (et_test (ev_op (x := iN d) (y := .non) (z := .bl true) (ev_var rfl) ev_c fun H7 e7 Q q => ⟨rfl, q H7 (Ex.refl H7)⟩)) fun _ => et_test (ev_op (ev_var rfl) (ev_var rfl) rv_I0)) ?_) (fun hb H7 e7 => ?_) (fun hb H7 e7 => ?_)
          · rw [Bool.true_and]
            exact decide_eq_decide.mpr ⟨fun h => by omega, fun h => by omega⟩
          · have hd' : d ≤ m := of_decide_eq_true hb
            refine s_ret (v := iN (i + 1)) (ev_var rfl) fun H8 e8 => ?_
            refine k2 i (fun x => if x = i + 1 then d else ds x) lv hne hi' (fun j hj => ?_) (by rw [if_pos rfl]; exact hd') (fun j hj => ?_) H8 ((e46.trans e7).trans e8)
            · by_cases ej : j = i
              · subst ej
                show DaysP ws (j + 1) (if j + 1 = j + 1 then d else ds (j + 1))
                rw [if_pos rfl]
                exact hd
              · show DaysP ws (j + 1) (if j + 1 = i + 1 then d else ds (j + 1))
                rw [if_neg (by omega)]
                exact (hds j (by omega)).1
            · show ¬ (if j + 1 = i + 1 then d else ds (j + 1)) ≤ m
              rw [if_neg (by omega)]
              exact (hds j hj).2
          · have hd' : ¬ d ≤ m := of_decide_eq_false hb
            refine ⟨_, _, rfl, e46.trans e7, fun _ => ⟨fun x => if x = i + 1 then d else ds x, fun j hj => ?_⟩⟩
            by_cases ej : j = i
            · subst ej
              show DaysP ws (j + 1) (if j + 1 = j + 1 then d else ds (j + 1)) ∧ ¬ (if j + 1 = j + 1 then d else ds (j + 1)) ≤ m
              rw [if_pos rfl]
              exact ⟨hd, hd'⟩
            · show DaysP ws (j + 1) (if j + 1 = i + 1 then d else ds (j + 1)) ∧ ¬ (if j + 1 = i + 1 then d else ds (j + 1)) ≤ m
              rw [if_neg (by omega)]
              exact hds j (by omega)
        · refine q_call (ea_cons (ev_var rfl) (ea_cons (ev_var rfl) ea_nil)) fun H5 e5 => ⟨y, n, ws, i + 1, rfl, hy.ext (e4.trans e5), yd, by omega, by omega, fun _ H6 e6 => ?_, fun d h => absurd h lv⟩
          have e46 : Ex H H6 := (e4.trans e5).trans e6
          refine s_when (b := false) (et_and (a := false) (b := false) (et_test (ev_op (x := .non) (y := .non) (z := .bl false) (ev_var rfl) ev_c fun H7 e7 Q q => ⟨rfl, q H7 (Ex.refl H7)⟩)) fun h => absurd h (by decide)) (fun hb => absurd hb (by decide)) (fun hb H7 e7 => ?_)
          exact ⟨_, _, rfl, e46.trans e7, fun lv' => absurd lv' lv⟩
      · rintro σ' H4 ⟨o2, o3, rfl, e4, pr⟩
        refine s_ret ev_c fun H5 e5 => ?_
        by_cases lv : Leaves ws
        · obtain ⟨ds, hds⟩ := pr lv
          exact k3 ds lv hne (fun j hj => hds j (by omega)) H5 (e4.trans e5)
        · exact k1 lv H5 (e4.trans e5)
end
end WL


set_option Elab.async false
set_option linter.all false
set_option maxRecDepth 100000
set_option maxHeartbeats 4000000
/-! Plans. -/
namespace WL
open PySem PySem.Spec PyProof.Rows L2 Evl WM
theorem ris_adj : ∀ l : List Nat, (∀ i, i + 1 < l.length → l.getD i 0 < l.getD (i + 1) 0) → WM.Ris l
  | [], _ => .nil
  | [a], _ => by simp
  | a :: b :: l, h => by
    have ih := ris_adj (b :: l) fun i hi => by
      have := h (i + 1) (by simpa using hi)
      simpa using this
    have h0 : a < b := by simpa using h 0 (by simp)
    refine List.pairwise_cons.mpr ⟨fun x hx => ?_, ih⟩
    rcases List.mem_cons.mp hx with e | hx
    · rw [e]
      exact h0
    · have := (List.pairwise_cons.mp ih).1 x hx
      omega
theorem adj_ris {l : List Nat} (h : WM.Ris l) {i : Nat} (hi : i + 1 < l.length) : l.getD i 0 < l.getD (i + 1) 0 := by
  have := List.pairwise_iff_getElem.mp h i (i + 1) (by omega) hi (by omega)
  rw [List.getD_eq_getElem?_getD, List.getD_eq_getElem?_getD, List.getElem?_eq_getElem (by omega), List.getElem?_eq_getElem hi]
  exact this
def risB (l : List Nat) : Bool := !((List.range (l.length - 1)).any fun i => decide (l.getD (i + 1) 0 ≤ l.getD i 0))
theorem risB_eq {l : List Nat} : risB l = true ↔ WM.Ris l := by
  unfold risB
  rw [Bool.not_eq_true', List.any_eq_false]
  constructor
  · intro h
    refine ris_adj l fun i hi => ?_
    have := h i (List.mem_range.mpr (by omega))
    rw [decide_eq_true_eq] at this
    omega
  · intro h i hi
    have hi := List.mem_range.mp hi
    have := adj_ris h (i := i) (by omega)
    rw [decide_eq_true_eq]
    omega
noncomputable def stepOk (ws : List Wl) (b l : List Nat) : Bool := (!decide (l = []) && risB l) && l.all fun x => decide (x ∈ come ws (sortN b))
noncomputable def loopOk (ws : List Wl) : List Nat → List (List Nat) → Bool
  | _, [] => true
  | b, l :: r => stepOk ws b l && loopOk ws (b ++ l) r
noncomputable def isPlan (ws : List Wl) (ls : List (List Nat)) : Bool := (ls.flatten.all fun x => decide (x < ws.length)) && decide (sortN ls.flatten = evy ws) && loopOk ws [] ls.reverse
theorem Lots.rev {H : Hp} {vs : List V} {ls : List (List Nat)} (h : Lots H vs ls) : Lots H vs.reverse ls.reverse := by
  induction h with
  | nil => exact .nil
  | cons h t ih =>
    rw [List.reverse_cons, List.reverse_cons]
    exact Lots.app ih (.cons h .nil)
theorem take_flat (i : Nat) (ls : List (List Nat)) : (ls.take i).flatten.length ≤ ls.flatten.length := by
  have h : ((ls.take i ++ ls.drop i).flatten).length = ls.flatten.length := by rw [List.take_append_drop]
  rw [List.flatten_append, List.length_append] at h
  omega
theorem given_bl (n : Nat) (f v : Nat → Bool) : given n f (fun i => .bl (v i)) = (((List.range n).filter f).map v).map V.bl := by
  unfold given
  rw [List.map_map]
  rfl
theorem walk_zipT {K : PySem.W.Frag} {a b : Addr} {xs ys : List V} {n : Nat} (hn : n = min xs.length ys.length) : Walk (RZ.ItzT K a b) n (fun H => SqT K H a xs ∧ SqT K H b ys) (YPair (fun i => xs[i]?) (fun i => ys[i]?)) := by
  subst hn
  refine ⟨fun i _ hi q => ?_, fun _ q => ⟨xs, ys, q.1, q.2, by omega⟩, fun i H v H' _ q y => ?_⟩
  · have h1 : i < xs.length := by omega
    have h2 : i < ys.length := by omega
    exact ⟨xs, ys, xs[i], ys[i], q.1, q.2, by simp [h1], by simp [h2]⟩
  · obtain ⟨T, x, z, h1, h2, h3, h4, h5⟩ := y
    exact ⟨T, x, z, h1, h2, h3, h4 xs q.1, h5 ys q.2⟩
section
variable {K : PySem.W.Frag} {σ : L2.St} {H : Hp} {ta tb te : TE} {D : Ends} {tz : TS} {x z : V} {t : TT}
theorem s_extT {l : Addr} {xs ys : List V} (hl : H l = some (.lst xs)) (ha : Ev ta σ H (.ref l)) (h : EvP te σ H ys) (hz : xs.length + ys.length ≤ 100000) (k : ∀ H1, Ex H H1 → D.nx σ (L2.upd H1 l (.lst (xs ++ ys)))) :
    tDrop (tBM K "list" (WR.rExtT K) ta (tCons te tNil)) D σ H := ha H (Ex.refl H) _ fun H1 e1 =>
  ⟨Or.inl ⟨rfl, xs, sq_of (e1 l _ hl)⟩, h H1 e1 _ fun p H2 e2 hp => ⟨l, p, xs, ys, rfl, rfl, e2 l _ (e1 l _ hl), st_of hp, sz_of hz, k H2 (e1.trans e2)⟩⟩
theorem ep_rev {xs : List V} (h : EvP te σ H xs) : EvP (WR.tRevT K te) σ H xs.reverse := fun H1 e Q q => h H1 e _ fun p H2 e2 hp => ⟨p, xs, rfl, st_of hp, fun r hr => q r _ (e2.trans (Ex.new hr)) upd_same⟩
theorem el_listP {xs : List V} (h : EvP te σ H xs) : EvL (tCB (rListS K) (tCons te tNil)) σ H xs := fun H1 e Q q => h H1 e _ fun p H2 e2 hp => ⟨p, xs, rfl, Or.inr (st_of hp), fun l nl => q l _ (fresh_back e2 nl) (e2.trans (Ex.new nl)) upd_same⟩
/-- any([a >= b for a, b in zip(lot, lot[1:])]) -/
theorem ev_adj {l : List Nat} {i1 i2 : Nat} {vs : List Nat} (ha : EvP ta σ H (LN l)) (hb : EvP tb σ H (LN (l.drop 1))) (hz : l.length ≤ 1000)
    (hw : ∀ x y, wipe (((wipe σ vs).set i1 (some x)).set i2 (some y)) vs = wipe σ vs) (h1 : ∀ x y, (((wipe σ vs).set i1 (some x)).set i2 (some y))[i1]? = some (some x)) (h2 : ∀ x y, (((wipe σ vs).set i1 (some x)).set i2 (some y))[i2]? = some (some y)) :
    Ev (tCB (rAny K) (tCons (tLc (RZ.iZipA K (tCons ta (tCons tb tNil))) (gTup K 2 (gCons (gName i1) (gCons (gName i2) gNil))) tYes (tOp (rI0 fun i j => .bl (decide (i ≥ j))) (tVar i1) (tVar i2)) vs) tNil)) σ H (.bl (!risB l)) := by
  have key : EvL (tLc (RZ.iZipA K (tCons ta (tCons tb tNil))) (gTup K 2 (gCons (gName i1) (gCons (gName i2) gNil))) tYes (tOp (rI0 fun i j => .bl (decide (i ≥ j))) (tVar i1) (tVar i2)) vs) σ H
      ((((List.range (l.length - 1)).filter fun _ => true).map fun i => decide (l.getD (i + 1) 0 ≤ l.getD i 0)).map V.bl) := fun H1 e Q q => by
    refine ha H1 e _ fun a H2 e2 hpa => hb H2 (e.trans e2) _ fun b H3 e3 hpb => ⟨a, b, LN l, LN (l.drop 1), rfl, Or.inr ⟨st_of (e3 _ _ hpa), st_of hpb, fun Dl hD => ?_⟩⟩
    refine lc_it (walk_zipT (n := l.length - 1) (by rw [LN_len, LN_len, List.length_drop]; omega)) (Cw H3 (fun _ => true) (fun i => .bl (decide (l.getD (i + 1) 0 ≤ l.getD i 0))) Dl) ⟨hD, Ex.new hD, upd_same⟩
      (fun i H' _ p => ⟨st_of (p.2.1 _ _ (e3 _ _ hpa)), st_of (p.2.1 _ _ hpb)⟩) (fun i x H4 H5 hi p y => ?_) fun H' p => ?_
    · obtain ⟨Tp, u, v, rfl, hT, rfl, hu, hv⟩ := y
      obtain ⟨m, hm, rfl⟩ := get_LN hu
      obtain ⟨m', hm', rfl⟩ := get_LN hv
      rw [List.getElem?_drop] at hm'
      have em : l.getD i 0 = m := getD_of hm
      have em' : l.getD (i + 1) 0 = m' := getD_of (by rw [Nat.add_comm]; exact hm')
      refine ⟨Tp, [iN m, iN m'], rfl, st_of upd_same, rfl, _, _, rfl, _, _, rfl, rfl, hw _ _, ?_⟩
      have pc : Cw H3 (fun _ => true) (fun i => .bl (decide (l.getD (i + 1) 0 ≤ l.getD i 0))) Dl i (L2.upd H4 Tp (.tup [iN m, iN m'])) := ⟨p.1, p.2.1.trans (Ex.new hT), (Ex.new hT) _ _ p.2.2⟩
      refine cw_turn pc (by omega) et_yes fun _ => ev_is (ev_op (ev_var (h1 _ _)) (ev_var (h2 _ _)) rv_I0) ?_
      show V.bl _ = V.bl (decide (l.getD (i + 1) 0 ≤ l.getD i 0))
      rw [em, em']
      congr 1
      exact decide_eq_decide.mpr ⟨fun h => by omega, fun h => by omega⟩
    · obtain ⟨p1, p2, p3⟩ := p
      rw [given_bl] at p3
      exact q Dl H' (fresh_back (e2.trans e3) p1) ((e2.trans e3).trans p2) p3
  refine ev_is (ev_any key) ?_
  congr 1
  unfold risB
  rw [Bool.not_not, filter_yes, List.any_map]
  rfl
end
/- 0 yard, 1 days, 2 lot, 3 told, 4 one, 5 behind, 6 a, 7 b, 8 ready -/
theorem sc_is_plan : FnScope ["yard", "days", "lot", "told", "one", "behind", "a", "b", "ready"] ["yard", "days"] (tScope 31) := ⟨rfl, rfl, rfl, by decide +kernel, rfl, by decide +kernel, by decide +kernel⟩
def spPlan : Sp := fun vs H Q _ => ∃ (y : Addr) (n : Nat) (ws : List Wl) (v : V), vs = [.ref y, v] ∧ Y H y n ws ∧ Yd n ws ∧
  ((((v = .non ∨ (∃ i, v = .int i) ∨ (∃ a xs, v = .ref a ∧ H a = some (.lst xs)) ∨ ∃ a, v = .ref a ∧ H a = some (.tup [.non])) ∧ RetV (.bl false) H Q)) ∨
   ∃ a us ls, v = .ref a ∧ H a = some (.tup us) ∧ Lots H us ls ∧ ls.length ≤ 60 ∧ ls.flatten.length < 60 ∧ RetV (.bl (isPlan ws ls)) H Q)
section
variable {P : Program} {w : World} {K : PySem.W.Frag} {mg : Str → Option Value} {base : Heap}
theorem ok_is_plan (g_need_yard : Cal P w K mg base 4 "need_yard" spNeedYard) (g_is_from : Cal P w K mg base 2 "is_from" spIsFrom) (g_every : Cal P w K mg base 1 "every" spEvery) (g_can_come_of : Cal P w K mg base 3 "can_come_of" spCome) (T : Tx K mg) (D : Df K mg "is_plan" 31) : Cal P w K mg base 5 "is_plan" spPlan := by
  refine D.cal sc_is_plan (fun vs H Q E h => ?_) (fun _ _ _ _ _ _ us hl => match us, hl with | [_, _], _ => rfl) (fun f cdv A outer s H vs Q E hr h => ?_)
  · obtain ⟨y, n, ws, v, rfl, _⟩ := h
    rfl
  · obtain ⟨y, n, ws, v, rfl, hy, yd, kd⟩ := h
    have hr64 := hr.units
    refine ⟨_, (pss_cons (ps_expr (pcall g_need_yard hr (by decide) rfl (pa_cons (pv 0) pa_nil)))
      (pss_cons (ps_if (PW.pt (pw_or (pt_not (pt_val (pe_callB (k_isi (K := K) rfl) (by rfl) T.b_isinstance (by decide +kernel) (pa_cons (pv 1) (pa_cons (pe_bltn (v := .ty "tuple") (by rfl) T.b_tuple (by decide +kernel) rfl) pa_nil))))) (pw_or1 (pt_val (pe_callB (k_any (K := K) rfl rfl) (by rfl) T.b_any (by decide +kernel) (pa_cons (pe_lc (own := [("lot", 2)]) (g := gName 2) rfl sc_is_plan.nd (k_pt (K := K) rfl (pv 1)) (blkOk_by (by kernel_rfl)) (fun _ _ _ _ _ => pg_name (i := 2) sc_is_plan.nd rfl (by first | exact Or.inl rfl | exact Or.inr rfl)) (fun _ _ _ _ _ => pts_nil) (fun _ _ _ _ _ => (pe_not (pe_callB (k_isi (K := K) rfl) (by rfl) T.b_isinstance (by decide +kernel) (pa_cons (pv 2) (pa_cons (pe_bltn (v := .ty "tuple") (by rfl) T.b_tuple (by decide +kernel) rfl) pa_nil)))))) pa_nil)))))) (pss_one (ps_ret pe_bl)) pss_nil)
      (pss_cons (ps_set (i := 3) sc_is_plan.nd rfl (by first | exact Or.inl rfl | exact Or.inr rfl) (pe_lst pa_nil))
      (pss_cons (ps_for PassesOwn.never rfl (k_pt (K := K) rfl (pv 1)) (pg_name (i := 2) sc_is_plan.nd rfl (by first | exact Or.inl rfl | exact Or.inr rfl))
        (pss_one (ps_expr (pe_bm PySem.F.plainAttrs_list PySem.F.slot_list_extend PySem.F.type_list_extend WR.mt_extT (pv 3) (pa_cons (pv 2) pa_nil)))))
      (pss_cons (ps_if (PW.pt (pw_or (pt_not (pt_val (pe_callB (k_all (K := K) rfl rfl) (by rfl) T.b_all (by decide +kernel) (pa_cons (pe_lc (own := [("one", 4)]) (g := gName 4) rfl sc_is_plan.nd (k_pl (K := K) rfl (pv 3)) (blkOk_by (by kernel_rfl)) (fun _ _ _ _ _ => pg_name (i := 4) sc_is_plan.nd rfl (by first | exact Or.inl rfl | exact Or.inr rfl)) (fun _ _ _ _ _ => pts_nil) (fun _ _ _ _ _ => (pcall g_is_from hr (by decide) rfl (pa_cons (pv 4) (pa_cons pe_int (pa_cons (pe_op op_sub (pe_callB (k_len (K := K) rfl) (by rfl) T.b_len (by decide +kernel) (pa_cons (pe_ix (k_ixT (K := K) rfl) (pv 0) pe_int (fun _ _ => rfl)) pa_nil)) pe_int) pa_nil)))))) pa_nil)))) (pw_or1 (pt_cmpR (k_neD (K := K) rfl hr64) (pe_callB (k_sortL (K := K) rfl) (by rfl) T.b_sorted (by decide +kernel) (pa_cons (pv 3) pa_nil)) (pe_callTy (k_lstOf (K := K) rfl) (by rfl) T.b_list (by decide +kernel) (pa_cons (pcall g_every hr (by decide) rfl (pa_cons (pv 0) pa_nil)) pa_nil)) (nomark _))))) (pss_one (ps_ret pe_bl)) pss_nil)
      (pss_cons (ps_set (i := 5) sc_is_plan.nd rfl (by first | exact Or.inl rfl | exact Or.inr rfl) (pe_lst pa_nil))
      (pss_cons (ps_for PassesOwn.never rfl (k_pt (K := K) rfl (WR.pe_revT (pv 1))) (pg_name (i := 2) sc_is_plan.nd rfl (by first | exact Or.inl rfl | exact Or.inr rfl))
        (pss_cons (ps_if (PW.pt (pw_or (pt_cmpR (k_eqD (K := K) rfl hr64) (pv 2) (pe_tup pa_nil) (nomark _)) (pw_or1 (pt_val (pe_callB (k_any (K := K) rfl rfl) (by rfl) T.b_any (by decide +kernel) (pa_cons (pe_lc (own := [("a", 6), ("b", 7)]) (g := (gTup K 2 (gCons (gName 6) (gCons (gName 7) gNil)))) rfl sc_is_plan.nd (RZ.pi_zipA (by rfl) T.b_zip (pa_cons (pv 2) (pa_cons (pe_slice (k_sl (K := K) rfl) (pv 2) (po_some pe_int) po_none) pa_nil))) (blkOk_by (by kernel_rfl)) (fun _ _ _ _ _ => k_gtup (K := K) rfl (by rfl) (pgs_cons (pg_name (i := 6) sc_is_plan.nd rfl (by first | exact Or.inl rfl | exact Or.inr rfl)) (pgs_cons (pg_name (i := 7) sc_is_plan.nd rfl (by first | exact Or.inl rfl | exact Or.inr rfl)) pgs_nil))) (fun _ _ _ _ _ => pts_nil) (fun _ _ _ _ _ => (pe_cmpR op_ge (pv 6) (pv 7) (nomark _)))) pa_nil)))))) (pss_one (ps_ret pe_bl)) pss_nil)
        (pss_cons (ps_set (i := 8) sc_is_plan.nd rfl (by first | exact Or.inl rfl | exact Or.inr rfl) (pcall g_can_come_of hr (by decide) rfl (pa_cons (pv 0) (pa_cons (pe_callTy (k_tupOf (K := K) rfl) (by rfl) T.b_tuple (by decide +kernel) (pa_cons (pe_callB (k_sortL (K := K) rfl) (by rfl) T.b_sorted (by decide +kernel) (pa_cons (pv 5) pa_nil)) pa_nil)) pa_nil))))
        (pss_cons (ps_if (pt_val (pe_callB (k_any (K := K) rfl rfl) (by rfl) T.b_any (by decide +kernel) (pa_cons (pe_lc (own := [("one", 4)]) (g := gName 4) rfl sc_is_plan.nd (k_pt (K := K) rfl (pv 2)) (blkOk_by (by kernel_rfl)) (fun _ _ _ _ _ => pg_name (i := 4) sc_is_plan.nd rfl (by first | exact Or.inl rfl | exact Or.inr rfl)) (fun _ _ _ _ _ => pts_nil) (fun _ _ _ _ _ => (pe_cmpR (k_nin (K := K) rfl) (pv 4) (pv 8) (by with_unfolding_all rfl)))) pa_nil))) (pss_one (ps_ret pe_bl)) pss_nil)
        (pss_one (ps_expr (pe_bm PySem.F.plainAttrs_list PySem.F.slot_list_extend PySem.F.type_list_extend WR.mt_extT (pv 5) (pa_cons (pv 2) pa_nil))))))))
      (pss_one (ps_ret pe_bl))))))))), ?_⟩
    have h6 := yd.few
    have evl : (evy ws).length ≤ 6 := by unfold evy; rw [List.length_range]; exact h6
    refine q_exp (ea_cons (ev_var rfl) ea_nil) (fun H1 e1 Q q => ⟨y, n, ws, rfl, hy.ext e1, yd, q⟩) fun H1 e1 => ?_
    rcases kd with ⟨kind, k⟩ | ⟨a, us, ls, rfl, ha, hls, l60, f60, k⟩
    · -- not a tuple of tuples
      refine q_when (b := true) ?_ (fun _ H2 e2 => s_ret ev_c fun H3 e3 => k H3 ((e1.trans e2).trans e3)) (fun hb => absurd hb (by decide))
      rcases kind with rfl | ⟨i, rfl⟩ | ⟨a, xs, rfl, ha⟩ | ⟨a, rfl, ha⟩
      · exact et_or (a := true) (b := true) (et_not (et_B (ev_isi (r := false) (ev_var rfl) (fun _ _ => .base .non) (by decide +kernel)))) fun h => absurd h (by decide)
      · exact et_or (a := true) (b := true) (et_not (et_B (ev_isi (r := false) (ev_var rfl) (fun _ _ => .base (.int i)) (by decide +kernel)))) fun h => absurd h (by decide)
      · exact et_or (a := true) (b := true) (et_not (et_B (ev_isi (r := false) (ev_var rfl) (fun H2 e2 => .base (.lst (e2 _ _ (e1 _ _ ha)))) (by decide +kernel)))) fun h => absurd h (by decide)
      · refine et_or (a := false) (b := true) (et_not (et_B (ev_isi (r := true) (ev_var rfl) (fun H2 e2 => .base (.tup (e2 _ _ (e1 _ _ ha)))) (by decide +kernel)))) fun _ => et_B (ev_any (bs := [true]) (el_is (el_lcP (fun _ => true) (fun _ => .bl true) (ep_var rfl (e1 _ _ ha)) (Nat.le_of_ble_eq_true rfl) (fun _ => rfl) (fun _ _ _ _ _ => et_yes) (fun i x H2 e2 hx _ => ?_)) rfl))
        match i, hx with
        | 0, hx =>
          cases hx
          exact ev_notV (ev_isi (r := false) (ev_var rfl) (fun _ _ => .base .non) (by decide +kernel))
        | i + 1, hx => simp at hx
    · have ha1 := e1 _ _ ha
      have hls1 := hls.ext e1
      refine q_when (b := false) (et_or (a := false) (b := false) (et_not (et_B (ev_isi (r := true) (ev_var rfl) (fun H2 e2 => .base (.tup (e2 _ _ ha1))) (by decide +kernel)))) fun _ => et_is (et_B (ev_any (el_is (el_lcP (fun _ => true) (fun _ => .bl false) (ep_var rfl ha1) (by rw [hls.len]; omega) (fun _ => rfl) (fun _ _ _ _ _ => et_yes) (fun i x H2 e2 hx _ => ?_)) (given_bl _ _ _)))) ?_) (fun hb => absurd hb (by decide)) (fun _ H2 e2 => ?_)
      · obtain ⟨b, l, rfl, _, hb⟩ := (hls1.ext e2).get hx
        exact ev_notV (ev_isi (r := true) (ev_var rfl) (fun H3 e3 => .base (.tup (e3 _ _ hb))) (by decide +kernel))
      · rw [List.any_map]
        exact List.any_eq_false.mpr fun x _ => by simp
      have e12 := e1.trans e2
      refine q_asgL el_none fun to H3 nto e3 hto => ?_
      have e13 := e12.trans e3
      have nto0 := fresh_back e12 nto
      refine q_forT (a := a) (xs := us) (ev_var rfl) (st_of (e13 _ _ ha)) (fun i σ H' => ∃ o2 o4 o5 o6 o7 o8, σ = [some (.ref y), some (.ref a), o2, some (.ref to), o4, o5, o6, o7, o8] ∧ Ex H H' ∧ H' to = some (.lst (LN (ls.take i).flatten)))
        (fun H4 e4 => ⟨_, _, _, _, _, _, rfl, e13.trans e4, e4 _ _ hto⟩) (fun i σ' H' _ p => by obtain ⟨_, _, _, _, _, _, _, e, _⟩ := p; exact st_of (e _ _ ha)) ?_ ?_
      · rintro i x σ' H4 hx ⟨o2, o4, o5, o6, o7, o8, rfl, e4, hto4⟩
        obtain ⟨b, l, rfl, hl, hb⟩ := (hls.ext e4).get hx
        show tDrop _ _ _ _
        refine s_extT hto4 (ev_var rfl) (ep_var rfl hb) ?_ fun H5 e5 => ⟨_, _, _, _, _, _, rfl, Ex.mut (e4.trans e5) nto0, ?_⟩
        · have h1 : (ls.take i).flatten.length ≤ ls.flatten.length := take_flat i ls
          have h2 : l.length ≤ ls.flatten.length := (List.sublist_flatten_of_mem (List.mem_of_getElem? hl)).length_le
          rw [LN_len, LN_len]
          omega
        · rw [upd_same, List.take_add_one, hl, List.flatten_append, ← List.map_append]
          simp
      · rintro σ' H4 ⟨o2, o4, o5, o6, o7, o8, rfl, e4, hto4⟩
        rw [hls.len, List.take_length] at hto4
        have hsorted : EvL (tCB (rSorted K) (tCons (tVar 3) tNil)) [some (.ref y), some (.ref a), o2, some (.ref to), o4, o5, o6, o7, o8] H4 (LN (sortN ls.flatten)) := el_sortL (ev_var rfl) hto4 (by omega)
        have c1 : Ev (tCB (rAll K) (tCons (tLc (iList K (tVar 3)) (gName 4) tYes (tCall spIsFrom [] L2.E0 (tCons (tVar 4) (tCons (tC (.int 0)) (tCons (tOp (rI0 fun i j => .int (i - j)) (tCB (rLenS K) (tCons (tOp (rIxT K) (tVar 0) (tC (.int 1))) tNil)) (tC (.int 1))) tNil)))) [4]) tNil)) [some (.ref y), some (.ref a), o2, some (.ref to), o4, o5, o6, o7, o8] H4 (.bl (ls.flatten.all fun x => decide (x < ws.length))) := by
          refine ev_is (ev_all (bs := ls.flatten.map fun x => decide (x < ws.length)) (el_is (el_natL (l := ls.flatten) (fun _ => true) (fun x => .bl (decide (x < ws.length))) (ev_var rfl) hto4 (by omega) (fun _ => rfl) (fun _ _ _ _ => et_yes) (fun x hx _ H5 e5 => ?_)) (by rw [filter_yes, List.map_map]; rfl))) (by rw [List.all_map]; rfl)
          refine ev_is (ev_c1 (sp := spIsFrom) (ea_cons (ev_var rfl) (ea_cons ev_c (ea_cons (ev_op (ev_ylen (hy.ext (e4.trans e5)) (ev_var rfl) ev_c) ev_c rv_I0) ea_nil))) fun H6 e6 Q q => ⟨(x : Int), 0, (ws.length : Int) - 1, rfl, q⟩) ?_
          rw [decide_eq_true (show (0 : Int) ≤ (x : Int) by omega), Bool.true_and]
          congr 1
          exact decide_eq_decide.mpr ⟨fun h => by omega, fun h => by omega⟩
        refine q_when (et_or (et_not (et_B c1)) fun _ => et_test (ev_neLL hsorted (el_listP (ep_every (hy.ext e4) h6 (ev_var rfl))))) (fun hb H5 e5 => ?_) (fun hb H5 e5 => ?_)
        · refine s_ret (v := .bl (isPlan ws ls)) (ev_is ev_c ?_) fun H6 e6 => k H6 ((e4.trans e5).trans e6)
          have : isPlan ws ls = false := by
            unfold isPlan
            rw [Bool.or_eq_true, Bool.not_eq_true', Bool.not_eq_true'] at hb
            rcases hb with h | h
            · rw [h]
              rfl
            · rw [h, Bool.and_false]
              rfl
          rw [this]
        · have hok : (ls.flatten.all fun x => decide (x < ws.length)) = true ∧ decide (sortN ls.flatten = evy ws) = true := by
            rw [Bool.or_eq_false_iff, Bool.not_eq_false', Bool.not_eq_false'] at hb
            exact hb
          have eok : isPlan ws ls = loopOk ws [] ls.reverse := by
            unfold isPlan
            rw [hok.1, hok.2]
            rfl
          rw [eok] at k
          have lok : ∀ l ∈ ls, ∀ x ∈ l, x < ws.length := fun l hl x hx => of_decide_eq_true (List.all_eq_true.mp hok.1 x (List.mem_flatten.mpr ⟨l, hl, hx⟩))
          have e15 := e4.trans e5
          refine q_asgL el_none fun be H6 nbe e6 hbe => ?_
          have e16 := e15.trans e6
          have nbe0 := fresh_back e15 nbe
          have rfl60 : ls.reverse.flatten.length < 60 := by
            have : ls.reverse.flatten.length = ls.flatten.length := ((List.reverse_perm ls).flatten).length_eq
            omega
          refine q_forP (xs := us.reverse) (ep_rev (ep_var rfl (e16 _ _ ha))) (fun p i σ H' => ∃ o2 o4 o6 o7 o8, σ = [some (.ref y), some (.ref a), o2, some (.ref to), o4, some (.ref be), o6, o7, o8] ∧ Ex H H' ∧ H' p = some (.tup us.reverse) ∧ H' be = some (.lst (LN (ls.reverse.take i).flatten)) ∧
              loopOk ws [] ls.reverse = loopOk ws (ls.reverse.take i).flatten (ls.reverse.drop i))
            (fun p H7 e7 hp => ⟨_, _, _, _, _, rfl, e16.trans e7, hp, e7 _ _ hbe, rfl⟩) (fun p i σ' H' _ q => by obtain ⟨_, _, _, _, _, _, _, h, _⟩ := q; exact h) ?_ ?_
          · rintro p i x σ' H7 hx ⟨o2, o4, o6, o7, o8, rfl, e7, hp, hbe7, lk⟩
            obtain ⟨b, l, rfl, hl, hb⟩ := (Lots.rev (hls.ext e7)).get hx
            have hli := (List.getElem?_eq_some_iff.mp hl).1
            have hlm : l ∈ ls := List.mem_reverse.mp (List.mem_of_getElem? hl)
            have ed : ls.reverse.drop i = l :: ls.reverse.drop (i + 1) := by
              rw [List.drop_eq_getElem_cons hli]
              congr 1
              exact (List.getElem?_eq_some_iff.mp hl).2
            have ll : l.length ≤ ls.flatten.length := (List.sublist_flatten_of_mem hlm).length_le
            have bl : (ls.reverse.take i).flatten.length ≤ ls.reverse.flatten.length := take_flat i ls.reverse
            rw [ed] at lk
            have lk : loopOk ws [] ls.reverse = (stepOk ws (ls.reverse.take i).flatten l && loopOk ws ((ls.reverse.take i).flatten ++ l) (ls.reverse.drop (i + 1))) := lk
            have bad : stepOk ws (ls.reverse.take i).flatten l = false → loopOk ws [] ls.reverse = false := fun h => by rw [lk, h]; rfl
            have pl : EvP (tSl (rSlA K) (tVar 2) (tPart (tC (.int 1))) tNoPart) [some (.ref y), some (.ref a), some (.ref b), some (.ref to), o4, some (.ref be), o6, o7, o8] H7 (LN (l.drop 1)) := by
              refine ep_is (ep_slice (lo := some 1) (hi := none) (ep_var rfl hb) (eo_some ev_c) eo_none) ?_
              by_cases c : l = []
              · subst c
                rfl
              · exact cut_tail l 1 (List.length_pos_iff.mpr c)
            show tSeq _ _ _ _ _
            refine q_when (et_or (et_test (ev_eqPP (ep_var rfl hb) ep_nil)) fun _ => et_B (ev_adj (l := l) (i1 := 6) (i2 := 7) (vs := [6, 7]) (ep_var rfl hb) pl (by omega) (fun _ _ => rfl) (fun _ _ => rfl) (fun _ _ => rfl))) (fun hb2 H8 e8 => ?_) (fun hb2 H8 e8 => ?_)
            · refine s_ret (v := .bl (loopOk ws [] ls.reverse)) (ev_is ev_c ?_) fun H9 e9 => k H9 ((e7.trans e8).trans e9)
              rw [bad]
              unfold stepOk
              rw [Bool.or_eq_true, Bool.not_eq_true'] at hb2
              rcases hb2 with h | h
              · rw [h]
                rfl
              · rw [h, Bool.and_false]
                rfl
            · have e18 := e7.trans e8
              have hb8 := e8 _ _ hb
              rw [Bool.or_eq_false_iff, Bool.not_eq_false'] at hb2
              refine q_call2 (x := .ref y) (ev_var rfl) (EvP.of (eu_tupL (el_sortL (ev_var rfl) (e8 _ _ hbe7) (by omega)))) fun r H9 e9 hr' => ?_
              refine ⟨y, r, n, ws, sortN (ls.reverse.take i).flatten, rfl, hy.ext (e18.trans e9), yd, hr', fun x hx => ?_, fun u H10 e10 hu => ?_⟩
              · have hx := (sortN_perm _).mem_iff.mp hx
                obtain ⟨l', h1, h2⟩ := List.mem_flatten.mp hx
                exact lok l' (List.mem_reverse.mp (List.mem_of_mem_take h1)) x h2
              · have e1a := (e18.trans e9).trans e10
                have e8a := e9.trans e10
                refine q_when (et_B (ev_any (bs := l.map fun x => decide (x ∉ come ws (sortN (ls.reverse.take i).flatten))) (el_is (el_nat (l := l) (fun _ => true) (fun x => .bl (decide (x ∉ come ws (sortN (ls.reverse.take i).flatten)))) (ep_var rfl (e8a _ _ hb8)) (by omega) (fun _ => rfl) (fun _ _ _ _ => et_yes) (fun x hx _ H11 e11 => ev_niTn (ev_var rfl) (ep_var rfl (e11 _ _ hu)))) (by rw [filter_yes, List.map_map]; rfl)))) (fun hb3 H11 e11 => ?_) (fun hb3 H11 e11 => ?_)
                · refine s_ret (v := .bl (loopOk ws [] ls.reverse)) (ev_is ev_c ?_) fun H12 e12 => k H12 ((e1a.trans e11).trans e12)
                  rw [bad]
                  unfold stepOk
                  rw [List.any_map] at hb3
                  have : (l.all fun x => decide (x ∈ come ws (sortN (ls.reverse.take i).flatten))) = false := by
                    rw [List.all_eq_false]
                    obtain ⟨x, hx, h⟩ := List.any_eq_true.mp hb3
                    have h : decide (x ∉ come ws (sortN (ls.reverse.take i).flatten)) = true := h
                    exact ⟨x, hx, by simpa using h⟩
                  rw [this, Bool.and_false]
                · have good : stepOk ws (ls.reverse.take i).flatten l = true := by
                    unfold stepOk
                    rw [hb2.1, hb2.2, Bool.not_false, Bool.true_and, Bool.true_and, List.all_eq_true]
                    intro x hx
                    rw [List.any_map, List.any_eq_false] at hb3
                    have h := hb3 x hx
                    have h : ¬ decide (x ∉ come ws (sortN (ls.reverse.take i).flatten)) = true := h
                    by_cases c : x ∈ come ws (sortN (ls.reverse.take i).flatten)
                    · exact decide_eq_true c
                    · exact absurd (decide_eq_true c) h
                  have e8b := e8a.trans e11
                  refine s_extT (e8b _ _ (e8 _ _ hbe7)) (ev_var rfl) (ep_var rfl (e8b _ _ hb8)) (by rw [LN_len, LN_len]; omega) fun H12 e12 => ?_
                  have nep : p ≠ be := fun z => by rw [z, hbe7] at hp; cases hp
                  refine ⟨_, _, _, _, _, rfl, Ex.mut ((e1a.trans e11).trans e12) nbe0, by rw [upd_ne nep]; exact e12 _ _ (e8b _ _ (e8 _ _ hp)), ?_, ?_⟩
                  · rw [upd_same, List.take_add_one, hl, List.flatten_append, ← List.map_append]
                    simp
                  · rw [lk, good, Bool.true_and, List.take_add_one, hl, List.flatten_append]
                    simp
          · rintro p σ' H7 ⟨o2, o4, o6, o7, o8, rfl, e7, hp, hbe7, lk⟩
            refine s_ret (v := .bl (loopOk ws [] ls.reverse)) (ev_is ev_c ?_) fun H8 e8 => k H8 (e7.trans e8)
            rw [lk, List.length_reverse, hls.len, List.drop_of_length_le (by rw [List.length_reverse]; exact Nat.le_refl _)]
            rfl
end
end WL


set_option Elab.async false
set_option linter.all false
set_option maxRecDepth 100000
set_option maxHeartbeats 4000000
/-! The law's script: numbers taken; answers compared. -/
namespace WL
open PySem PySem.Spec PyProof.Rows L2 Evl WM
/-- the script's row at an address -/
def Row (K : PySem.W.Frag) (B H : Hp) (r : Addr) : Prop := B r = none ∧ Ex B H ∧ ∃ (sa : Addr) (ns : List Int) (i : Nat) (j k : Int), H r = some (.lst [.ref sa, .int (i : Int), .int j, .int k]) ∧ SqL K B sa (ns.map V.int) ∧ 0 ≤ j ∧ j < 2147483647 ∧ 0 ≤ k
theorem hide_mono {H H' : Hp} {r : Addr} (e : Ex (hide H r) H') : Ex (hide H r) (hide H' r) := hide_of e hide_none
theorem hide_trans {H H1 H2 : Hp} {r : Addr} (a : Ex (hide H r) H1) (b : Ex (hide H1 r) H2) : Ex (hide H r) H2 := (hide_mono a).trans b
theorem Row.ext {K : PySem.W.Frag} {B H H' : Hp} {r : Addr} (h : Row K B H r) (e : Ex H H') : Row K B H' r := by
  obtain ⟨b, eB, sa, ns, i, j, k, h1, h2⟩ := h
  exact ⟨b, eB.trans e, sa, ns, i, j, k, e _ _ h1, h2⟩
theorem Row.mut {K : PySem.W.Frag} {B H : Hp} {r p : Addr} {o : HO} (h : Row K B H r) (hp : B p = none) (ne : p ≠ r) : Row K B (upd H p o) r := by
  obtain ⟨b, eB, sa, ns, i, j, k, h1, h2⟩ := h
  exact ⟨b, Ex.mut eB hp, sa, ns, i, j, k, by rw [upd_ne (Ne.symm ne)]; exact h1, h2⟩
theorem Row.some {K : PySem.W.Frag} {B H : Hp} {r : Addr} (h : Row K B H r) : ∃ xs, H r = .some (.lst xs) := by
  obtain ⟨b, eB, sa, ns, i, j, k, h1, h2⟩ := h
  exact ⟨_, h1⟩
theorem Row.ne {K : PySem.W.Frag} {B H : Hp} {r p : Addr} (h : Row K B H r) (hp : H p = none) : p ≠ r := fun z => by
  obtain ⟨xs, hx⟩ := h.some
  rw [z, hx] at hp
  cases hp
/- 0 _law_row, 1 _law_many, 2 _law_found, 3 _law_cell -/
theorem sc_law_taken : FnScope ["_law_row", "_law_many", "_law_found", "_law_cell"] ["_law_row", "_law_many"] (tScope 35) := ⟨rfl, rfl, rfl, by decide +kernel, rfl, by decide +kernel, by decide +kernel⟩
/- 0 _law_row, 1 _law_things -/
theorem sc_law_pick : FnScope ["_law_row", "_law_things"] ["_law_row", "_law_things"] (tScope 36) := ⟨rfl, rfl, rfl, by decide +kernel, rfl, by decide +kernel, by decide +kernel⟩
/- 0 _law_found, 1 _law_due -/
theorem sc_law_is : FnScope ["_law_found", "_law_due"] ["_law_found", "_law_due"] (tScope 38) := ⟨rfl, rfl, rfl, by decide +kernel, rfl, by decide +kernel, by decide +kernel⟩
/- 0 _law_found, 1 _law_due, 2 _law_k -/
theorem sc_law_alike : FnScope ["_law_found", "_law_due", "_law_k"] ["_law_found", "_law_due"] (tScope 37) := ⟨rfl, rfl, rfl, by decide +kernel, rfl, by decide +kernel, by decide +kernel⟩
def spTaken (K : PySem.W.Frag) : Sp := fun vs H Q _ => ∃ (B : Hp) (r : Addr) (m : Nat), vs = [.ref r, iN m] ∧ Row K B H r ∧ 1 ≤ m ∧ m ≤ 1000 ∧ ∀ v H2, v < m → Ex (hide H r) H2 → Row K B H2 r → Q (iN v) H2
def spPick (K : PySem.W.Frag) : Sp := fun vs H Q _ => ∃ (B : Hp) (r t : Addr) (xs : List V), vs = [.ref r, .ref t] ∧ Row K B H r ∧ H t = some (.lst xs) ∧ t ≠ r ∧ 1 ≤ xs.length ∧ xs.length ≤ 1000 ∧ ∀ (i : Nat) x H2, xs[i]? = some x → Ex (hide H r) H2 → Row K B H2 r → Q x H2
def spIs : Sp := fun vs H Q _ => ∃ a b : Bool, vs = [.bl a, .bl b] ∧ RetV (.bl (decide (a = b))) H Q
/-- alike, so many tuples deep -/
def spAl : Nat → Sp
  | 0 => fun _ _ _ _ => False
  | j + 1 => fun vs H Q _ => (∃ i : Int, vs = [.int i, .int i] ∧ RetV (.bl true) H Q) ∨ (vs = [.non, .non] ∧ RetV (.bl true) H Q) ∨
      ∃ (a b : Addr) (xs ys : List V), vs = [.ref a, .ref b] ∧ H a = some (.tup xs) ∧ H b = some (.tup ys) ∧ xs.length = ys.length ∧ ys.length ≤ 1000 ∧ (∀ (i : Nat) x y, xs[i]? = some x → ys[i]? = some y → ∀ H1, Ex H H1 → ∀ Q' : VK, RetV (.bl true) H1 Q' → spAl j [x, y] H1 Q' L2.E0) ∧ RetV (.bl true) H Q
section
variable {K : PySem.W.Frag} {σ : L2.St} {H : Hp} {ta tb te : TE} {x : V} {m : String} {r : Bool} {i : Int}
theorem ev_isTL (ha : Ev ta σ H x) (hx : ∀ H1, Ex H H1 → TyX K H1 x (.type m)) (hk : PySem.W.kitAny K (.type m) [.type "tuple", .type "list"] = some r) : Ev (tCB (rIsiT K) (tCons ta (tCons (tTup (tCons (tC (.ty "tuple")) (tCons (tC (.ty "list")) tNil))) tNil))) σ H (.bl r) := fun H1 e Q q =>
  ha H1 e _ fun H2 e2 => ⟨(by decide : 2 ≤ sizeLine), fun p hp => ⟨x, p, [.ty "tuple", .ty "list"], .type m, _, r, rfl, upd_same, .cons (.ty "tuple") (.cons (.ty "list") .nil), hx _ ((e.trans e2).trans (Ex.new hp)), hk, q _ (e2.trans (Ex.new hp))⟩⟩
theorem ev_int1 (ha : Ev ta σ H (.int i)) : Ev (tCB (fun xs H Q => (∃ i, xs = [V.int i] ∧ Q (.int i) H) ∨ ∃ k, xs = [V.bl k] ∧ Q (.int (if k then 1 else 0)) H) (tCons ta tNil)) σ H (.int i) := fun H1 e Q q =>
  ha H1 e _ fun H2 e2 => Or.inl ⟨i, rfl, q H2 e2⟩
end
theorem mod_nat (a : Int) {m : Nat} (h : 1 ≤ m) : ∃ v : Nat, a % (m : Int) = (v : Int) ∧ v < m := by
  have h1 := Int.emod_nonneg a (show (m : Int) ≠ 0 by omega)
  have h2 := Int.emod_lt_of_pos a (show (0 : Int) < (m : Int) by omega)
  obtain ⟨v, hv⟩ := Int.eq_ofNat_of_zero_le h1
  exact ⟨v, hv, by omega⟩
section
variable {P : Program} {w : World} {K : PySem.W.Frag} {mg : Str → Option Value} {base : Heap}
theorem ok_law_taken (T : Tx K mg) (D : Df K mg "_law_taken" 35) : Cal P w K mg base 1 "_law_taken" (spTaken K) := by
  refine D.cal sc_law_taken (fun vs H Q E h => ?_) (fun _ _ _ _ _ _ us hl => match us, hl with | [_, _], _ => rfl) (fun f cdv A outer s H vs Q E hr h => ?_)
  · obtain ⟨B, r, m, rfl, _⟩ := h
    rfl
  · obtain ⟨B, r, m, rfl, ⟨br, eB0, sa, ns, i, j, k, hrow, hS0, j0, jM, k0⟩, m1, m1000, q⟩ := h
    have hB0 : Ex B (hide H r) := hide_of eB0 br
    have hS := ex_l hB0 hS0
    refine ⟨_, (pss_cons (ps_if (pt_cmpR op_gt (pe_ix (k_ixL (K := K) rfl) (pv 0) pe_int (fun _ _ => rfl)) pe_int (nomark _)) (pss_cons (ps_set (i := 2) sc_law_taken.nd rfl (by first | exact Or.inl rfl | exact Or.inr rfl) (pe_op op_mod (pe_callTy call_int1 (by rfl) T.b_int (by decide +kernel) (pa_cons (pe_ix (k_ixL (K := K) rfl) (pv 0) pe_int (fun _ _ => rfl)) pa_nil)) (pv 1)))
        (pss_cons (ps_asg (pe_op op_fdiv (pe_ix (k_ixL (K := K) rfl) (pv 0) pe_int (fun _ _ => rfl)) (pv 1)) (pg_sub (pv 0) pe_int set_list))
        (pss_one (ps_ret (pv 2))))) pss_nil)
      (pss_cons (ps_asg (pe_op op_add (pe_ix (k_ixL (K := K) rfl) (pv 0) pe_int (fun _ _ => rfl)) pe_int) (pg_sub (pv 0) pe_int set_list))
      (pss_cons (ps_if (pt_cmpR op_gt (pe_ix (k_ixL (K := K) rfl) (pv 0) pe_int (fun _ _ => rfl)) (pe_callB (k_len (K := K) rfl) (by rfl) T.b_len (by decide +kernel) (pa_cons (pe_ix (k_ixL (K := K) rfl) (pv 0) pe_int (fun _ _ => rfl)) pa_nil)) (nomark _)) (pss_cons (ps_asg (pe_op op_mod (pe_callTy call_int1 (by rfl) T.b_int (by decide +kernel) (pa_cons (pe_op op_add (pe_op op_mul (pe_ix (k_ixL (K := K) rfl) (pv 0) pe_int (fun _ _ => rfl)) pe_int) pe_int) pa_nil)) pe_int) (pg_sub (pv 0) pe_int set_list))
        (pss_one (ps_ret (pe_op op_mod (pe_callTy call_int1 (by rfl) T.b_int (by decide +kernel) (pa_cons (pe_op op_fdiv (pe_ix (k_ixL (K := K) rfl) (pv 0) pe_int (fun _ _ => rfl)) pe_int) pa_nil)) (pv 1))))) pss_nil)
      (pss_cons (ps_set (i := 3) sc_law_taken.nd rfl (by first | exact Or.inl rfl | exact Or.inr rfl) (pe_ix (k_ixL (K := K) rfl) (pe_ix (k_ixL (K := K) rfl) (pv 0) pe_int (fun _ _ => rfl)) (pe_op op_sub (pe_ix (k_ixL (K := K) rfl) (pv 0) pe_int (fun _ _ => rfl)) pe_int) (fun _ _ => rfl)))
      (pss_cons (ps_asg (pe_op op_mod (pe_callTy call_int1 (by rfl) T.b_int (by decide +kernel) (pa_cons (pe_op op_add (pe_op op_add (pe_op op_mul (pe_ix (k_ixL (K := K) rfl) (pv 0) pe_int (fun _ _ => rfl)) pe_int) (pv 3)) pe_int) pa_nil)) pe_int) (pg_sub (pv 0) pe_int set_list))
      (pss_cons (ps_if (pt_cmpR op_ge (pv 3) (pe_op op_pow pe_int pe_int) (nomark _)) (pss_one (ps_asg (pe_op op_fdiv (pv 3) (pv 1)) (pg_sub (pv 0) pe_int set_list))) pss_nil)
      (pss_one (ps_ret (pe_op op_mod (pe_callTy call_int1 (by rfl) T.b_int (by decide +kernel) (pa_cons (pv 3) pa_nil)) (pv 1)))))))))), ?_⟩
    have mdiv : ∀ a : Int, CDiv a (m : Int) := fun a => ⟨by omega, by omega⟩
    have mpos : (0 : Int) < (m : Int) := by omega
    refine q_when (et_test (ev_op (ev_ixL (ev_var rfl) ev_c hrow (atI_nat (j := 3) rfl)) ev_c rv_I0)) (fun hb H1 e1 => ?_) (fun hb H1 e1 => ?_)
    · obtain ⟨v, hv, hvm⟩ := mod_nat k m1
      refine q_asg (v := iN v) (ev_is (ev_op (ev_int1 (ev_ixL (ev_var rfl) ev_c (e1 _ _ hrow) (atI_nat (j := 3) rfl))) (ev_var rfl) (rv_I mpos)) (by rw [hv])) fun H2 e2 => ?_
      have h2 := e2 _ _ (e1 _ _ hrow)
      refine q_setL (j := 3) h2 (ev_op (ev_ixL (ev_var rfl) ev_c h2 (atI_nat (j := 3) rfl)) (ev_var rfl) (rv_I (mdiv _))) (ev_var rfl) ev_c (Nat.le_of_ble_eq_true rfl) fun H3 e3 => ?_
      refine s_ret (ev_var rfl) fun H4 e4 => ?_
      have eB : Ex (hide H r) H4 := (Ex.mut (hide_ex.trans ((e1.trans e2).trans e3)) hide_none).trans e4
      exact q v H4 hvm eB ⟨br, hB0.trans eB, sa, ns, i, j, k / m, e4 _ _ upd_same, hS0, j0, jM, Int.ediv_nonneg k0 (by omega)⟩
    · refine q_setL (j := 1) (e1 _ _ hrow) (v := .int ((i + 1 : Nat) : Int)) (ev_is (ev_op (ev_ixL (ev_var rfl) ev_c (e1 _ _ hrow) (atI_nat (j := 1) rfl)) ev_c rv_I0) rfl) (ev_var rfl) ev_c (Nat.le_of_ble_eq_true rfl) fun H2 e2 => ?_
      have eB2 : Ex (hide H r) (upd H2 r (.lst (([.ref sa, .int (i : Int), .int j, .int k] : List V).set 1 (.int ((i + 1 : Nat) : Int))))) := Ex.mut (hide_ex.trans (e1.trans e2)) hide_none
      have h2 : (upd H2 r (.lst (([.ref sa, .int (i : Int), .int j, .int k] : List V).set 1 (.int ((i + 1 : Nat) : Int))))) r = some (.lst [.ref sa, .int ((i + 1 : Nat) : Int), .int j, .int k]) := upd_same
      have hS2 := ex_l eB2 hS
      generalize (upd H2 r (.lst (([.ref sa, .int (i : Int), .int j, .int k] : List V).set 1 (.int ((i + 1 : Nat) : Int))))) = H3 at eB2 h2 hS2
      refine q_when (et_test (ev_op (ev_ixL (ev_var rfl) ev_c h2 (atI_nat (j := 1) rfl)) (ev_is (ev_len (xs := ns.map V.int) (ev_ixL (ev_var rfl) ev_c h2 (atI_nat (j := 0) rfl)) hS2) (by rw [List.length_map])) rv_I0)) (fun hb H4 e4 => ?_) (fun hb H4 e4 => ?_)
      · -- past the script
        have h4 := e4 _ _ h2
        refine q_setL (j := 2) h4 (ev_op (ev_int1 (ev_op (ev_op (ev_ixL (ev_var rfl) ev_c h4 (atI_nat (j := 2) rfl)) ev_c (rv_I (Or.inr ⟨by decide, by decide⟩))) ev_c rv_I0)) ev_c (rv_I (by decide))) (ev_var rfl) ev_c (Nat.le_of_ble_eq_true rfl) fun H5 e5 => ?_
        have eB5 : Ex (hide H r) (upd H5 r (.lst (([.ref sa, .int ((i + 1 : Nat) : Int), .int j, .int k] : List V).set 2 (.int ((j * 48271 + 11) % 2147483647))))) := Ex.mut (eB2.trans (e4.trans e5)) hide_none
        have h5 : (upd H5 r (.lst (([.ref sa, .int ((i + 1 : Nat) : Int), .int j, .int k] : List V).set 2 (.int ((j * 48271 + 11) % 2147483647))))) r = some (.lst [.ref sa, .int ((i + 1 : Nat) : Int), .int ((j * 48271 + 11) % 2147483647), .int k]) := upd_same
        generalize (upd H5 r (.lst (([.ref sa, .int ((i + 1 : Nat) : Int), .int j, .int k] : List V).set 2 (.int ((j * 48271 + 11) % 2147483647))))) = H6 at eB5 h5
        obtain ⟨v, hv, hvm⟩ := mod_nat ((j * 48271 + 11) % 2147483647 / 7) m1
        refine s_ret (v := iN v) (ev_is (ev_op (ev_int1 (ev_op (ev_ixL (ev_var rfl) ev_c h5 (atI_nat (j := 2) rfl)) ev_c (rv_I ⟨by decide, by decide⟩))) (ev_var rfl) (rv_I mpos)) (by rw [hv])) fun H7 e7 => ?_
        have eB7 := eB5.trans e7
        exact q v H7 hvm eB7 ⟨br, hB0.trans eB7, sa, ns, i + 1, _, k, e7 _ _ h5, hS0, Int.emod_nonneg _ (by decide), Int.emod_lt_of_pos _ (by decide), k0⟩
      · have h4 := e4 _ _ h2
        have hS4 := ex_l e4 hS2
        have hi : i < ns.length := by
          have := of_decide_eq_false hb
          omega
        obtain ⟨c, hc⟩ : ∃ c, ns[i]? = some c := ⟨_, List.getElem?_eq_getElem hi⟩
        refine q_asg (v := .int c) (ev_op (x := .ref sa) (y := .int (i : Int)) (ev_ixL (ev_var rfl) ev_c h4 (atI_nat (j := 0) rfl)) (ev_is (ev_op (ev_ixL (ev_var rfl) ev_c h4 (atI_nat (j := 1) rfl)) ev_c rv_I0) (by show V.int _ = V.int _; congr 1; omega)) (rv_ixL hS4 (atI_nat (by rw [List.getElem?_map, hc]; rfl)))) fun H5 e5 => ?_
        have h5 := e5 _ _ h4
        refine q_setL (j := 2) h5 (ev_op (ev_int1 (ev_op (ev_op (ev_op (ev_ixL (ev_var rfl) ev_c h5 (atI_nat (j := 2) rfl)) ev_c (rv_I (Or.inr ⟨by decide, by decide⟩))) (ev_var rfl) rv_I0) ev_c rv_I0)) ev_c (rv_I (by decide))) (ev_var rfl) ev_c (Nat.le_of_ble_eq_true rfl) fun H6 e6 => ?_
        have eB6 : Ex (hide H r) (upd H6 r (.lst (([.ref sa, .int ((i + 1 : Nat) : Int), .int j, .int k] : List V).set 2 (.int ((j * 48271 + c + 11) % 2147483647))))) := Ex.mut (eB2.trans (e4.trans (e5.trans e6))) hide_none
        have h6 : (upd H6 r (.lst (([.ref sa, .int ((i + 1 : Nat) : Int), .int j, .int k] : List V).set 2 (.int ((j * 48271 + c + 11) % 2147483647))))) r = some (.lst [.ref sa, .int ((i + 1 : Nat) : Int), .int ((j * 48271 + c + 11) % 2147483647), .int k]) := upd_same
        generalize (upd H6 r (.lst (([.ref sa, .int ((i + 1 : Nat) : Int), .int j, .int k] : List V).set 2 (.int ((j * 48271 + c + 11) % 2147483647))))) = H7 at eB6 h6
        obtain ⟨v, hv, hvm⟩ := mod_nat c m1
        have fin : ∀ (k' : Int) (H8 : Hp), 0 ≤ k' → Ex (hide H r) H8 → H8 r = some (.lst [.ref sa, .int ((i + 1 : Nat) : Int), .int ((j * 48271 + c + 11) % 2147483647), .int k']) → Q (iN v) H8 := fun k' H8 hk' eB8 h8 =>
          q v H8 hvm eB8 ⟨br, hB0.trans eB8, sa, ns, i + 1, _, k', h8, hS0, Int.emod_nonneg _ (by decide), Int.emod_lt_of_pos _ (by decide), hk'⟩
        refine q_when (et_test (ev_op (ev_var rfl) (ev_op (x := .int 10) (y := .int 18) ev_c ev_c (rv_I ⟨by decide, by decide, by decide⟩)) rv_I0)) (fun hb H8 e8 => ?_) (fun hb H8 e8 => ?_)
        · have hc0 : 0 ≤ c := by
            have h := of_decide_eq_true hb
            have h : c ≥ (10 : Int) ^ (18 : Int).toNat := h
            have : (0 : Int) ≤ (10 : Int) ^ (18 : Int).toNat := by decide
            omega
          refine s_setL (j := 3) (e8 _ _ h6) (ev_op (ev_var rfl) (ev_var rfl) (rv_I (mdiv _))) (ev_var rfl) ev_c (Nat.le_of_ble_eq_true rfl) fun H9 e9 => ?_
          dsimp only
          refine s_ret (v := iN v) (ev_is (ev_op (ev_int1 (ev_var rfl)) (ev_var rfl) (rv_I mpos)) (by rw [hv])) fun H10 e10 => ?_
          exact fin (c / m) H10 (Int.ediv_nonneg hc0 (by omega)) ((Ex.mut (eB6.trans (e8.trans e9)) hide_none).trans e10) (e10 _ _ upd_same)
        · refine s_ret (v := iN v) (ev_is (ev_op (ev_int1 (ev_var rfl)) (ev_var rfl) (rv_I mpos)) (by rw [hv])) fun H10 e10 => ?_
          exact fin k H10 k0 (eB6.trans (e8.trans e10)) (e10 _ _ (e8 _ _ h6))
theorem ok_law_pick (g_law_taken : Cal P w K mg base 1 "_law_taken" (spTaken K)) (T : Tx K mg) (D : Df K mg "_law_pick" 36) : Cal P w K mg base 2 "_law_pick" (spPick K) := by
  refine D.cal sc_law_pick (fun vs H Q E h => ?_) (fun _ _ _ _ _ _ us hl => match us, hl with | [_, _], _ => rfl) (fun f cdv A outer s H vs Q E hr h => ?_)
  · obtain ⟨B, r, t, xs, rfl, _⟩ := h
    rfl
  · obtain ⟨B, r, t, xs, rfl, hrow, ht, ne, x1, x1000, q⟩ := h
    refine ⟨_, (pss_one (ps_ret (pe_ix (k_ixL (K := K) rfl) (pv 1) (pcall g_law_taken hr (by decide) rfl (pa_cons (pv 0) (pa_cons (pe_callB (k_len (K := K) rfl) (by rfl) T.b_len (by decide +kernel) (pa_cons (pv 1) pa_nil)) pa_nil))) (fun _ _ => rfl)))), ?_⟩
    refine ⟨_, rfl, ?_⟩
    refine (ea_cons (x := .ref r) (vs := [iN xs.length]) (ev_var rfl) (ea_cons (ev_lenL (ev_var rfl) ht) ea_nil)) H (Ex.refl H) _ fun H1 e1 => ⟨B, r, xs.length, rfl, hrow.ext e1, x1, x1000, fun v H2 hv e2 row2 => ?_⟩
    have t2 : H2 t = some (.lst xs) := e2 _ _ (hide_get (e1 _ _ ht) ne)
    refine ⟨t, xs, (v : Int), xs[v], rfl, rfl, sq_of t2, atI_nat (List.getElem?_eq_getElem hv), ?_⟩
    exact q v _ H2 (List.getElem?_eq_getElem hv) (hide_trans (hide_ex.trans e1) e2) row2
theorem ok_law_is (T : Tx K mg) (D : Df K mg "_law_is" 38) : Cal P w K mg base 1 "_law_is" spIs := by
  refine D.cal sc_law_is (fun vs H Q E h => ?_) (fun _ _ _ _ _ _ us hl => match us, hl with | [_, _], _ => rfl) (fun f cdv A outer s H vs Q E hr h => ?_)
  · obtain ⟨a, b, rfl, _⟩ := h
    rfl
  · obtain ⟨a, b, rfl, k⟩ := h
    refine ⟨_, (pss_one (ps_ret (pe_and (pe_callB (k_isi (K := K) rfl) (by rfl) T.b_isinstance (by decide +kernel) (pa_cons (pv 0) (pa_cons (pe_bltn (v := .ty "bool") (by rfl) T.b_bool (by decide +kernel) rfl) pa_nil))) (pe_one (pe_cmpR op_eq (pv 0) (pv 1) (nomark _)))))), ?_⟩
    refine s_ret (v := .bl (decide (a = b))) (ev_is (ev_andV (a := true) (b := decide (a = b)) (ev_isi (r := true) (ev_var rfl) (fun _ _ => .base (.bl a)) (by decide +kernel)) fun _ => ev_is (ev_op (ev_var rfl) (ev_var rfl) (rv_eq rfl)) ?_) rfl) k
    congr 1
    exact decide_eq_decide.mpr ⟨fun h => by injection h, fun h => by rw [h]⟩
theorem Df.no {x : Str} {i : Nat} {ps : List Str} (D : Df K mg x i)
    (hb : ∀ (kV doc pm : Value) (an : Option Addr) (cdv ct : Value) (us : List Value), us.length = ps.length → bindArgs (PySem.W.fnOf x x (tArgs i) (tBody i) (tScope i) .none kV doc pm an cdv ct) ⟨us, []⟩ = pure (ps.zip us)) : Cal P w K mg base 0 x (fun _ _ _ _ => False) := by
  obtain ⟨f, fd, F, hm⟩ := D.ex
  exact ⟨f, fd, ps, ⟨fun _ _ _ _ h => h.elim, fun _ _ _ _ _ _ _ _ _ _ _ _ _ h => h.elim⟩, hm, F.kp, F.bindsN hb⟩
theorem ok_law_alike (T : Tx K mg) (D : Df K mg "_law_alike" 37) : ∀ j, Cal P w K mg base j "_law_alike" (spAl j)
  | 0 => Df.no D (ps := ["_law_found", "_law_due"]) (fun _ _ _ _ _ _ us hl => match us, hl with | [_, _], _ => rfl)
  | j + 1 => by
    have g_law_alike := ok_law_alike T D j
    refine D.cal sc_law_alike (fun vs H Q E h => ?_) (fun _ _ _ _ _ _ us hl => match us, hl with | [_, _], _ => rfl) (fun f cdv A outer s H vs Q E hr h => ?_)
    · rcases h with ⟨i, rfl, _⟩ | ⟨rfl, _⟩ | ⟨a, b, xs, ys, rfl, _⟩ <;> rfl
    · have hr64 := hr.units
      refine ⟨_, (pss_cons (ps_if (pt_val (pe_callB (k_isiT (K := K) rfl) (by rfl) T.b_isinstance (by decide +kernel) (pa_cons (pv 1) (pa_cons (pe_tup (pa_cons (pe_bltn (v := .ty "tuple") (by rfl) T.b_tuple (by decide +kernel) rfl) (pa_cons (pe_bltn (v := .ty "list") (by rfl) T.b_list (by decide +kernel) rfl) pa_nil))) pa_nil)))) (pss_cons (ps_if (PW.pt (pw_or (pt_not (pt_val (pe_callB (k_isiT (K := K) rfl) (by rfl) T.b_isinstance (by decide +kernel) (pa_cons (pv 0) (pa_cons (pe_tup (pa_cons (pe_bltn (v := .ty "tuple") (by rfl) T.b_tuple (by decide +kernel) rfl) (pa_cons (pe_bltn (v := .ty "list") (by rfl) T.b_list (by decide +kernel) rfl) pa_nil))) pa_nil))))) (pw_or1 (pt_cmpR op_ne (pe_callB (k_isi (K := K) rfl) (by rfl) T.b_isinstance (by decide +kernel) (pa_cons (pv 0) (pa_cons (pe_bltn (v := .ty "list") (by rfl) T.b_list (by decide +kernel) rfl) pa_nil))) (pe_callB (k_isi (K := K) rfl) (by rfl) T.b_isinstance (by decide +kernel) (pa_cons (pv 1) (pa_cons (pe_bltn (v := .ty "list") (by rfl) T.b_list (by decide +kernel) rfl) pa_nil))) (nomark _))))) (pss_one (ps_ret pe_bl)) pss_nil)
        (pss_cons (ps_if (pt_cmpR op_ne (pe_callB (k_len (K := K) rfl) (by rfl) T.b_len (by decide +kernel) (pa_cons (pv 0) pa_nil)) (pe_callB (k_len (K := K) rfl) (by rfl) T.b_len (by decide +kernel) (pa_cons (pv 1) pa_nil)) (nomark _)) (pss_one (ps_ret pe_bl)) pss_nil)
        (pss_one (ps_ret (pe_cmpR (k_eqD (K := K) rfl hr64) (pe_lc (own := [("_law_k", 2)]) (g := gName 2) rfl sc_law_alike.nd (pi_range1 (by rfl) T.b_range (pa_cons (pe_callB (k_len (K := K) rfl) (by rfl) T.b_len (by decide +kernel) (pa_cons (pv 1) pa_nil)) pa_nil)) (blkOk_by (by kernel_rfl)) (fun _ _ _ _ _ => pg_name (i := 2) sc_law_alike.nd rfl (by first | exact Or.inl rfl | exact Or.inr rfl)) (fun _ _ _ _ _ => pts_one (pt_not (pt_val (pcall g_law_alike hr (Nat.le_refl _) rfl (pa_cons (pe_ix (k_ixT (K := K) rfl) (pv 0) (pv 2) (fun _ _ => rfl)) (pa_cons (pe_ix (k_ixT (K := K) rfl) (pv 1) (pv 2) (fun _ _ => rfl)) pa_nil)))))) (fun _ _ _ _ _ => (pv 2))) (pe_lst pa_nil) (nomark _)))))) pss_nil)
      (pss_cons (ps_if (PW.pt (pw_or (pt_cmpR op_isN (pv 1) pe_non (nomark _)) (pw_or1 (pt_val (pe_callB (k_isi (K := K) rfl) (by rfl) T.b_isinstance (by decide +kernel) (pa_cons (pv 1) (pa_cons (pe_bltn (v := .ty "str") (by rfl) T.b_str (by decide +kernel) rfl) pa_nil))))))) (pss_one (ps_ret (pe_and (pe_cmpR op_eq (pv 0) (pv 1) (nomark _)) (pe_one (pe_cmpR op_eq (pe_callB (k_isi (K := K) rfl) (by rfl) T.b_isinstance (by decide +kernel) (pa_cons (pv 0) (pa_cons (pe_bltn (v := .ty "str") (by rfl) T.b_str (by decide +kernel) rfl) pa_nil))) (pe_callB (k_isi (K := K) rfl) (by rfl) T.b_isinstance (by decide +kernel) (pa_cons (pv 1) (pa_cons (pe_bltn (v := .ty "str") (by rfl) T.b_str (by decide +kernel) rfl) pa_nil))) (nomark _)))))) pss_nil)
      (pss_one (ps_ret (pe_and (pe_callB (k_isi (K := K) rfl) (by rfl) T.b_isinstance (by decide +kernel) (pa_cons (pv 0) (pa_cons (pe_bltn (v := .ty "int") (by rfl) T.b_int (by decide +kernel) rfl) pa_nil))) (pe_and (pe_cmpR op_eq (pe_callB (k_isi (K := K) rfl) (by rfl) T.b_isinstance (by decide +kernel) (pa_cons (pv 0) (pa_cons (pe_bltn (v := .ty "bool") (by rfl) T.b_bool (by decide +kernel) rfl) pa_nil))) (pe_callB (k_isi (K := K) rfl) (by rfl) T.b_isinstance (by decide +kernel) (pa_cons (pv 1) (pa_cons (pe_bltn (v := .ty "bool") (by rfl) T.b_bool (by decide +kernel) rfl) pa_nil))) (nomark _)) (pe_one (pe_cmpR op_eq (pv 0) (pv 1) (nomark _))))))))), ?_⟩
      rcases h with ⟨i, rfl, k⟩ | ⟨rfl, k⟩ | ⟨a, b, xs, ys, rfl, ha, hb, hl, h1000, hs, k⟩
      · refine q_when (b := false) (et_B (ev_isTL (m := "int") (r := false) (ev_var rfl) (fun _ _ => .base (.int i)) (by rfl))) (fun h => absurd h (by decide)) fun _ H1 e1 => ?_
        refine q_when (b := false) (et_or (a := false) (b := false) (et_test (ev_op (x := .int i) (y := .non) (z := .bl false) (ev_var rfl) ev_c fun H7 e7 Q q => ⟨rfl, q H7 (Ex.refl H7)⟩)) fun _ => et_B (ev_isi (r := false) (ev_var rfl) (fun _ _ => .base (.int i)) (by decide +kernel))) (fun h => absurd h (by decide)) fun _ H2 e2 => ?_
        refine s_ret (v := .bl true) (ev_is (ev_andV (a := true) (b := true) (ev_isi (r := true) (ev_var rfl) (fun _ _ => .base (.int i)) (by decide +kernel)) fun _ => ev_is (ev_andV (a := true) (b := true) (ev_is (ev_op (ev_isi (r := false) (ev_var rfl) (fun _ _ => .base (.int i)) (by decide +kernel)) (ev_isi (r := false) (ev_var rfl) (fun _ _ => .base (.int i)) (by decide +kernel)) (rv_eq rfl)) rfl) fun _ => ev_is (ev_op (ev_var rfl) (ev_var rfl) (rv_eq rfl)) (by rw [decide_eq_true rfl])) rfl) rfl) fun H3 e3 => k H3 ((e1.trans e2).trans e3)
      · refine q_when (b := false) (et_B (ev_isTL (m := "NoneType") (r := false) (ev_var rfl) (fun _ _ => .base .non) (by rfl))) (fun h => absurd h (by decide)) fun _ H1 e1 => ?_
        refine q_when (b := true) (et_or (a := true) (b := true) (et_test (ev_op (x := .non) (y := .non) (z := .bl true) (ev_var rfl) ev_c fun H7 e7 Q q => ⟨rfl, q H7 (Ex.refl H7)⟩)) fun h => absurd h (by decide)) (fun _ H2 e2 => ?_) (fun h => absurd h (by decide))
        exact s_ret (v := .bl true) (ev_is (ev_andV (a := true) (b := true) (ev_is (ev_op (ev_var rfl) (ev_var rfl) (rv_eq rfl)) rfl) fun _ => ev_is (ev_op (ev_isi (r := false) (ev_var rfl) (fun _ _ => .base .non) (by decide +kernel)) (ev_isi (r := false) (ev_var rfl) (fun _ _ => .base .non) (by decide +kernel)) (rv_eq rfl)) rfl) rfl) fun H3 e3 => k H3 ((e1.trans e2).trans e3)
      · have iT : ∀ {ta : TE} {σ : L2.St} {p : Addr} {zs : List V} {H1 : Hp}, Ev ta σ H1 (.ref p) → H1 p = some (.tup zs) → Ev (tCB (rIsiT K) (tCons ta (tCons (tTup (tCons (tC (.ty "tuple")) (tCons (tC (.ty "list")) tNil))) tNil))) σ H1 (.bl true) := fun h hp => ev_isTL (m := "tuple") h (fun H2 e2 => .base (.tup (e2 _ _ hp))) (by rfl)
        have iL : ∀ {ta : TE} {σ : L2.St} {p : Addr} {zs : List V} {H1 : Hp}, Ev ta σ H1 (.ref p) → H1 p = some (.tup zs) → Ev (tCB (rIsi K) (tCons ta (tCons (tC (.ty "list")) tNil))) σ H1 (.bl false) := fun h hp => ev_isi (m := "tuple") h (fun H2 e2 => .base (.tup (e2 _ _ hp))) (by decide +kernel)
        refine q_when (b := true) (et_B (iT (ev_var rfl) hb)) (fun _ H1 e1 => ?_) (fun h => absurd h (by decide))
        refine q_when (b := false) (et_or (a := false) (b := false) (et_not (et_B (iT (ev_var rfl) (e1 _ _ ha)))) fun _ => et_is (et_test (ev_op (iL (ev_var rfl) (e1 _ _ ha)) (iL (ev_var rfl) (e1 _ _ hb)) (rv_ne rfl))) rfl) (fun h => absurd h (by decide)) fun _ H2 e2 => ?_
        have e12 := e1.trans e2
        refine q_when (b := false) (et_is (et_test (ev_op (ev_lenT (ev_var rfl) (e12 _ _ ha)) (ev_lenT (ev_var rfl) (e12 _ _ hb)) (rv_ne rfl))) (by rw [hl, decide_eq_true rfl]; rfl)) (fun h => absurd h (by decide)) fun _ H3 e3 => ?_
        have e13 := e12.trans e3
        refine s_ret (v := .bl true) (ev_is (ev_eqLL (a := []) (b := []) (el_is (el_lcR1 (n := (ys.length : Int)) (fun _ => false) (fun i => iN i) (ea_cons (ev_lenT (ev_var rfl) (e13 _ _ hb)) ea_nil) ⟨by omega, by omega⟩ (fun _ => rfl) (fun i H4 e4 hi => ?_) (fun i H4 e4 hi h => absurd h (by decide))) ?_) el_none) rfl) fun H4 e4 => k H4 (e13.trans e4)
        · have hi : i < ys.length := by omega
          have hi' : i < xs.length := by omega
          refine et_is (et_not (et_B (ev_c1 (z := .bl true) (sp := spAl j) (ea_cons (ev_ixT (v := xs[i]) (ev_var rfl) (ev_var rfl) ((e13.trans e4) _ _ ha) (atI_nat (List.getElem?_eq_getElem hi'))) (ea_cons (ev_ixT (v := ys[i]) (ev_var rfl) (ev_var rfl) ((e13.trans e4) _ _ hb) (atI_nat (List.getElem?_eq_getElem hi))) ea_nil)) fun H5 e5 Q q => hs i _ _ (List.getElem?_eq_getElem hi') (List.getElem?_eq_getElem hi) H5 ((e13.trans e4).trans e5) Q q))) rfl
        · unfold given
          have : ((List.range ((ys.length : Int)).toNat).filter fun _ => false) = [] := List.filter_eq_nil_iff.mpr fun _ _ h => absurd h (by decide)
          rw [this]
end
end WL


set_option Elab.async false
set_option linter.all false
set_option maxRecDepth 100000
set_option maxHeartbeats 4000000
/-! The law's yard, the law's order. -/
namespace WL
open PySem PySem.Spec PyProof.Rows L2 Evl WM
/- 0 _law_row, 1 _law_rooms, 2 _law_shuts, 3 _law_either, 4 _law_many, 5 _law_found, 6 _law_room, 7 _law_low, 8 _law_turn, 9 _law_high -/
theorem sc_law_yard : FnScope ["_law_row", "_law_rooms", "_law_shuts", "_law_either", "_law_many", "_law_found", "_law_room", "_law_low", "_law_turn", "_law_high"] ["_law_row", "_law_rooms", "_law_shuts", "_law_either"] (tScope 39) := ⟨rfl, rfl, rfl, by decide +kernel, rfl, by decide +kernel, by decide +kernel⟩
/- 0 _law_row, 1 _law_many, 2 _law_left, 3 _law_found -/
theorem sc_law_shuffled : FnScope ["_law_row", "_law_many", "_law_left", "_law_found"] ["_law_row", "_law_many"] (tScope 43) := ⟨rfl, rfl, rfl, by decide +kernel, rfl, by decide +kernel, by decide +kernel⟩
def spYard (K : PySem.W.Frag) : Sp := fun vs H Q _ => ∃ (B : Hp) (r : Addr), vs = [.ref r, iN 5, iN 6, iN 1] ∧ Row K B H r ∧ ∀ y n ws H2, Ex (hide H r) H2 → Row K B H2 r → Y H2 y n ws → y ≠ r → B y = none → Yd n ws → n ≤ 5 → Q (.ref y) H2
def spShuf (K : PySem.W.Frag) : Sp := fun vs H Q _ => ∃ (B : Hp) (r : Addr) (m : Nat), vs = [.ref r, iN m] ∧ Row K B H r ∧ m ≤ 6 ∧ ∀ order p H2, Ex (hide H r) H2 → Row K B H2 r → H2 p = some (.tup (LN order)) → order.Perm (List.range m) → Q (.ref p) H2
def tri (w : Wl) : List Nat := [w.1, w.2.1, w.2.2]
theorem lots_refs {H : Hp} {us : List V} {ls : List (List Nat)} (h : Lots H us ls) : ∃ as : List Addr, us = as.map V.ref ∧ as.length = ls.length ∧ ∀ (i : Nat) (a : Addr) (l : List Nat), as[i]? = some a → ls[i]? = some l → H a = some (.tup (LN l)) := by
  induction h with
  | nil => exact ⟨[], rfl, rfl, fun i a l h => by simp at h⟩
  | @cons u l us ls h _ ih =>
    obtain ⟨a, rfl, ha⟩ := h
    obtain ⟨as, rfl, h2, h3⟩ := ih
    refine ⟨a :: as, rfl, by rw [List.length_cons, List.length_cons, h2], fun i b m hb hm => ?_⟩
    cases i with
    | zero =>
      have e : a = b := by simpa using hb
      have e' : l = m := by simpa using hm
      rw [← e, ← e']
      exact ha
    | succ i => exact h3 i b m (by simpa using hb) (by simpa using hm)
theorem Y.of {H : Hp} {y wa : Addr} {n : Nat} {us : List V} {ws : List Wl} (h1 : H y = some (.tup [iN n, .ref wa])) (h2 : H wa = some (.tup us)) (h3 : Lots H us (ws.map tri)) : Y H y n ws := by
  obtain ⟨as, rfl, hl, hg⟩ := lots_refs h3
  refine ⟨wa, as, h1, h2, by rw [hl, List.length_map], fun i a w ha hw => ?_⟩
  exact hg i a (tri w) ha (by rw [List.getElem?_map, hw]; rfl)
section
variable {K : PySem.W.Frag} {σ : L2.St} {B H : Hp} {ta tb te : TE} {r : Addr} {m : Nat}
theorem r_take (ha : Ev ta σ H (.ref r)) (hb : Ev tb σ H (iN m)) (row : Row K B H r) (m1 : 1 ≤ m) (m2 : m ≤ 1000) {Q : VK} (k : ∀ v H2, v < m → Ex (hide H r) H2 → Row K B H2 r → Q (iN v) H2) : tCall (spTaken K) [] L2.E0 (tCons ta (tCons tb tNil)) σ H Q :=
  ha H (Ex.refl H) _ fun H1 e1 => hb H1 e1 _ fun H2 e2 => ⟨B, r, m, rfl, row.ext (e1.trans e2), m1, m2, fun v H3 hv e3 row3 => k v H3 hv (hide_trans (hide_ex.trans (e1.trans e2)) e3) row3⟩
theorem hide_row {H H2 : Hp} (row : Row K B H r) (e : Ex (hide H r) H2) : Ex B H2 := (hide_of row.2.1 row.1).trans e
theorem erase_perm : ∀ (L : List Nat) (v : Nat) (h : v < L.length), (L[v] :: L.eraseIdx v).Perm L
  | a :: L, 0, _ => List.Perm.refl _
  | a :: L, v + 1, h => by
    have hv : v < L.length := by simpa using h
    show (L[v] :: a :: L.eraseIdx v).Perm (a :: L)
    exact (List.Perm.swap _ _ _).trans (List.Perm.cons a (erase_perm L v hv))
theorem erase_LN : ∀ (L : List Nat) (v : Nat), (LN L).eraseIdx v = LN (L.eraseIdx v)
  | [], _ => rfl
  | a :: L, 0 => rfl
  | a :: L, v + 1 => by
    show iN a :: (LN L).eraseIdx v = iN a :: LN (L.eraseIdx v)
    rw [erase_LN L v]
theorem ite_t {b : Bool} {x y : Prop} (h : b = true) (hx : x) : if b = true then x else y := by
  rw [if_pos h]
  exact hx
theorem ite_f {b : Bool} {x y : Prop} (h : b = false) (hy : y) : if b = true then x else y := by
  rw [h, if_neg (by decide)]
  exact hy
theorem q_parLL {D : Ends} {tz : TS} {i j : Nat} {xs ys : List V} (h1 : EvL ta σ H xs) (h2 : EvL tb σ H ys) (k : ∀ p r H1 H2, H p = none → Ex H H1 → H1 p = some (.lst xs) → H1 r = none → Ex H1 H2 → H2 r = some (.lst ys) → tz D ((σ.set i (some (.ref p))).set j (some (.ref r))) H2) :
    tSeq (tPar i j (tCons ta (tCons tb tNil))) tz D σ H := h1 H (Ex.refl H) _ fun p H1 np e1 hp => h2 H1 e1 _ fun r H2 nr e2 hr => ⟨_, _, rfl, k p r H1 H2 np e1 hp nr e2 hr⟩
theorem seqIx {v n : Nat} (h : v < n) : seqIndex? (v : Int) n = some v := by
  have h1 : ¬ (v : Int) < 0 := by omega
  have h2 : (v : Int) < (n : Int) := by omega
  simp [seqIndex?, h1, h2]
end
section
variable {P : Program} {w : World} {K : PySem.W.Frag} {mg : Str → Option Value} {base : Heap}
theorem ok_law_shuffled (g_law_taken : Cal P w K mg base 1 "_law_taken" (spTaken K)) (T : Tx K mg) (D : Df K mg "_law_shuffled" 43) : Cal P w K mg base 2 "_law_shuffled" (spShuf K) := by
  refine D.cal sc_law_shuffled (fun vs H Q E h => ?_) (fun _ _ _ _ _ _ us hl => match us, hl with | [_, _], _ => rfl) (fun f cdv A outer s H vs Q E hr h => ?_)
  · obtain ⟨B, r, m, rfl, _⟩ := h
    rfl
  · obtain ⟨B, r, m, rfl, row, m6, q⟩ := h
    have hr64 := hr.units
    refine ⟨_, (pss_cons (ps_par (i := 2) (j := 3) rfl sc_law_shuffled.nd rfl rfl (by decide) rfl rfl (pa_cons (pe_listRg rfl (by rfl) T.b_list (prg_1 (by rfl) T.b_range (pv 1))) (pa_cons (pe_lst pa_nil) pa_nil)) (by rfl))
      (pss_cons (ps_while PassesOwn.never (pt_cmpR (k_neD (K := K) rfl hr64) (pv 2) (pe_lst pa_nil) (nomark _))
        (pss_one (ps_expr (pe_bm PySem.F.plainAttrs_list PySem.F.slot_list_append PySem.F.type_list_append mt_append (pv 3) (pa_cons (pe_bm PySem.F.plainAttrs_list PySem.F.slot_list_pop PySem.F.type_list_pop mt_popAt (pv 2) (pa_cons (pcall g_law_taken hr (by decide) rfl (pa_cons (pv 0) (pa_cons (pe_callB (k_len (K := K) rfl) (by rfl) T.b_len (by decide +kernel) (pa_cons (pv 2) pa_nil)) pa_nil))) pa_nil)) pa_nil)))))
      (pss_one (ps_ret (pe_callTy (k_tupOf (K := K) rfl) (by rfl) T.b_tuple (by decide +kernel) (pa_cons (pv 3) pa_nil)))))), ?_⟩
    refine q_parLL (el_rg (m := m) (ev_var rfl) (by omega)) el_none fun lf fo H1 H2 nlf e1 hlf nfo x2 hfo => ?_
    have row2 : Row K B H2 r := (row.ext e1).ext x2
    have nlr : lf ≠ r := row.ne nlf
    have nfr : fo ≠ r := (row.ext e1).ne nfo
    have nlf' : fo ≠ lf := fun z => by rw [z, hlf] at nfo; cases nfo
    have hB : Ex (hide H r) H2 := hide_ex.trans (e1.trans x2)
    have blf : hide H r lf = none := by
      unfold hide
      rw [if_neg nlr]
      exact nlf
    have bfo : hide H r fo = none := by
      unfold hide
      rw [if_neg nfr]
      exact fresh_back e1 nfo
    have blf' : B lf = none := fresh_back row.2.1 nlf
    have bfo' : B fo = none := fresh_back (row.2.1.trans e1) nfo
    refine q_while (fun c σ H' => ∃ L F, σ = [some (.ref r), some (iN m), some (.ref lf), some (.ref fo)] ∧ Ex (hide H r) H' ∧ Row K B H' r ∧ H' lf = some (.lst (LN L)) ∧ H' fo = some (.lst (LN F)) ∧ (F ++ L).Perm (List.range m) ∧ c = L.length) m
      ⟨List.range m, [], rfl, hB, row2, x2 _ _ hlf, hfo, List.Perm.refl _, List.length_range.symm⟩ ?_
    rintro c σ H2 ⟨L, F, rfl, e2, row3, hL, hF, pm, rfl⟩
    have len : F.length + L.length = m := by
      have := pm.length_eq
      rw [List.length_append, List.length_range] at this
      exact this
    refine ⟨_, et_test (ev_neVL (ev_var rfl) hL el_none), fun hb H3 e3 => ?_, fun hb H3 e3 => ?_⟩
    · have hne : L ≠ [] := by
        intro z
        rw [z] at hb
        exact absurd hb (by decide)
      have lpos := List.length_pos_iff.mpr hne
      refine ⟨fun σ2 H3 => ∃ L' F', σ2 = [some (.ref r), some (iN m), some (.ref lf), some (.ref fo)] ∧ Ex (hide H r) H3 ∧ Row K B H3 r ∧ H3 lf = some (.lst (LN L')) ∧ H3 fo = some (.lst (LN F')) ∧ (F' ++ L').Perm (List.range m) ∧ L'.length < L.length, ?_, ?_⟩
      · rintro σ2 H3 ⟨L', F', rfl, a, b, c, d, e, f⟩
        exact ⟨L'.length, f, L', F', rfl, a, b, c, d, e, rfl⟩
      · refine ⟨.ref fo, rfl, Or.inl ⟨rfl, LN F, sq_of (e3 _ _ hF)⟩, ?_⟩
        refine ⟨.ref lf, rfl, Or.inl ⟨rfl, LN L, sq_of (e3 _ _ hL)⟩, ?_⟩
        refine r_take (m := L.length) (ev_var rfl) (ev_is (ev_lenL (ev_var rfl) (e3 _ _ hL)) (by rw [LN_len])) (row3.ext e3) lpos (by omega) fun v H4 hv e4 row4 => ?_
        have hL4 : H4 lf = some (.lst (LN L)) := e4 _ _ (hide_get (e3 _ _ hL) nlr)
        have hF4 : H4 fo = some (.lst (LN F)) := e4 _ _ (hide_get (e3 _ _ hF) nfr)
        have e24 : Ex (hide H r) H4 := (hide_mono (e2.trans e3)).trans e4
        refine ⟨lf, LN L, (v : Int), v, iN L[v], rfl, rfl, hL4, by omega, by omega, ?_, ?_, ?_⟩
        · rw [LN_len]
          exact seqIx hv
        · rw [List.getElem?_map, List.getElem?_eq_getElem hv]
          rfl
        · refine ⟨fo, LN F, iN L[v], rfl, rfl, by rw [upd_ne nlf']; exact hF4, by rw [LN_len]; exact sz_lt (by omega), ?_⟩
          refine ⟨L.eraseIdx v, F ++ [L[v]], rfl, Ex.mut (Ex.mut e24 blf) bfo, (row4.mut blf' nlr).mut bfo' nfr, ?_, by rw [upd_same, LN_snoc], ?_, ?_⟩
          · rw [upd_ne (Ne.symm nlf'), upd_same]
            congr 2
            exact erase_LN L v
          · refine List.Perm.trans ?_ pm
            rw [List.append_assoc]
            exact List.Perm.append_left F (erase_perm L v hv)
          · rw [List.length_eraseIdx_of_lt hv]
            omega
    · have he : L = [] := by simpa using hb
      subst he
      refine eu_tupV (xs := LN F) (ev_var rfl) (e3 _ _ hF) H3 (Ex.refl H3) _ fun p H4 np e4 hp => ?_
      refine q F p H4 ((e2.trans e3).trans e4) ((row3.ext e3).ext e4) hp ?_
      rw [List.append_nil] at pm
      exact pm
theorem ok_law_yard (g_law_taken : Cal P w K mg base 1 "_law_taken" (spTaken K)) (T : Tx K mg) (D : Df K mg "_law_yard" 39) : Cal P w K mg base 2 "_law_yard" (spYard K) := by
  refine D.cal sc_law_yard (fun vs H Q E h => ?_) (fun _ _ _ _ _ _ us hl => match us, hl with | [_, _, _, _], _ => rfl) (fun f cdv A outer s H vs Q E hr h => ?_)
  · obtain ⟨B, r, rfl, _⟩ := h
    rfl
  · obtain ⟨B, r, rfl, row, q⟩ := h
    refine ⟨_, (pss_cons (ps_set (i := 4) sc_law_yard.nd rfl (by first | exact Or.inl rfl | exact Or.inr rfl) (pe_op op_add pe_int (pcall g_law_taken hr (by decide) rfl (pa_cons (pv 0) (pa_cons (pv 1) pa_nil)))))
      (pss_cons (ps_if (pt_cmpR op_eq (pv 4) pe_int (nomark _)) (pss_one (ps_ret (pe_tup (pa_cons pe_int (pa_cons (pe_tup pa_nil) pa_nil))))) pss_nil)
      (pss_cons (ps_set (i := 5) sc_law_yard.nd rfl (by first | exact Or.inl rfl | exact Or.inr rfl) (pe_lst pa_nil))
      (pss_cons (ps_for PassesOwn.never rfl (pi_range2 (by rfl) T.b_range (pa_cons pe_int (pa_cons (pv 4) pa_nil))) (pg_name (i := 6) sc_law_yard.nd rfl (by first | exact Or.inl rfl | exact Or.inr rfl))
        (pss_one (ps_if (PW.pt (pw_and (pt_cmpR op_lt (pe_callB (k_len (K := K) rfl) (by rfl) T.b_len (by decide +kernel) (pa_cons (pv 5) pa_nil)) (pv 2) (nomark _)) (pw_and1 (pt_cmpR op_gt (pcall g_law_taken hr (by decide) rfl (pa_cons (pv 0) (pa_cons pe_int pa_nil))) pe_int (nomark _))))) (pss_cons (ps_set (i := 7) sc_law_yard.nd rfl (by first | exact Or.inl rfl | exact Or.inr rfl) (pcall g_law_taken hr (by decide) rfl (pa_cons (pv 0) (pa_cons (pv 6) pa_nil))))
          (pss_one (ps_expr (pe_bm PySem.F.plainAttrs_list PySem.F.slot_list_append PySem.F.type_list_append mt_append (pv 5) (pa_cons (pe_tup (pa_cons (pv 7) (pa_cons (pv 6) (pa_cons (pe_ifExp (pt_cmpR op_gt (pcall g_law_taken hr (by decide) rfl (pa_cons (pv 0) (pa_cons pe_int pa_nil))) pe_int (nomark _)) pe_int (pcall g_law_taken hr (by decide) rfl (pa_cons (pv 0) (pa_cons (pe_op op_add pe_int (pv 3)) pa_nil)))) pa_nil)))) pa_nil))))) pss_nil)))
      (pss_cons (ps_for PassesOwn.never rfl (pi_range1 (by rfl) T.b_range (pa_cons (pcall g_law_taken hr (by decide) rfl (pa_cons (pv 0) (pa_cons (pe_op op_add (pe_op op_sub (pv 2) (pe_callB (k_len (K := K) rfl) (by rfl) T.b_len (by decide +kernel) (pa_cons (pv 5) pa_nil))) pe_int) pa_nil))) pa_nil)) (pg_name (i := 8) sc_law_yard.nd rfl (by first | exact Or.inl rfl | exact Or.inr rfl))
        (pss_cons (ps_set (i := 7) sc_law_yard.nd rfl (by first | exact Or.inl rfl | exact Or.inr rfl) (pcall g_law_taken hr (by decide) rfl (pa_cons (pv 0) (pa_cons (pe_op op_sub (pv 4) pe_int) pa_nil))))
        (pss_cons (ps_set (i := 9) sc_law_yard.nd rfl (by first | exact Or.inl rfl | exact Or.inr rfl) (pe_op op_add (pe_op op_add (pv 7) pe_int) (pcall g_law_taken hr (by decide) rfl (pa_cons (pv 0) (pa_cons (pe_op op_sub (pe_op op_sub (pv 4) pe_int) (pv 7)) pa_nil)))))
        (pss_one (ps_expr (pe_bm PySem.F.plainAttrs_list PySem.F.slot_list_append PySem.F.type_list_append mt_append (pv 5) (pa_cons (pe_tup (pa_cons (pv 7) (pa_cons (pv 9) (pa_cons (pcall g_law_taken hr (by decide) rfl (pa_cons (pv 0) (pa_cons (pe_op op_add pe_int (pv 3)) pa_nil))) pa_nil)))) pa_nil)))))))
      (pss_one (ps_ret (pe_tup (pa_cons (pv 4) (pa_cons (pe_callTy (k_tupOf (K := K) rfl) (by rfl) T.b_tuple (by decide +kernel) (pa_cons (pv 5) pa_nil)) pa_nil)))))))))), ?_⟩
    refine r_take (m := 5) (ev_var rfl) (ev_var rfl) row (by decide) (by decide) fun v0 H1 hv0 e1 row1 => ⟨1, (v0 : Int), rfl, rfl, ?_⟩
    obtain ⟨n, hn⟩ : ∃ n, n = 1 + v0 := ⟨_, rfl⟩
    have en : (1 : Int) + (v0 : Int) = (n : Int) := by omega
    have n5 : n ≤ 5 := by omega
    have n1 : 1 ≤ n := by omega
    show tSeq _ _ _ [some (.ref r), some (iN 5), some (iN 6), some (iN 1), some (.int (1 + (v0 : Int))), none, none, none, none, none] H1
    rw [en]
    refine q_when (et_test (ev_op (ev_var rfl) ev_c (rv_eq rfl))) (fun hb H2 e2 => ?_) (fun hb H2 e2 => ?_)
    · have hn1 : n = 1 := by
        have h : iN n = V.int 1 := of_decide_eq_true hb
        injection h with h
        omega
      subst hn1
      refine ⟨Nat.zero_le _, fun wa nwa => ⟨(by decide : 2 ≤ sizeLine), fun y ny => ?_⟩⟩
      have x1 := Ex.new (o := .tup []) nwa
      have x2 := Ex.new (o := .tup [.int 1, .ref wa]) ny
      have row2 := (row1.ext e2).ext x1
      refine q y 1 [] _ (((e1.trans e2).trans x1).trans x2) (row2.ext x2) (Y.of (us := []) upd_same (x2 _ _ upd_same) .nil) (row2.ne ny) (fresh_back row2.2.1 ny) ⟨⟨Nat.le_refl _, fun w h => nomatch h⟩, by decide, by decide⟩ (by decide)
    have n2 : 2 ≤ n := by
      have h : ¬ iN n = V.int 1 := of_decide_eq_false hb
      by_cases c : n = 1
      · subst c
        exact absurd rfl h
      · omega
    have row2 := row1.ext e2
    refine q_asgL el_none fun fo H3 nfo e3 hfo => ?_
    have row3 := row2.ext e3
    have nfr : fo ≠ r := row2.ne nfo
    have bfoB : B fo = none := fresh_back row2.2.1 nfo
    have eB3 : Ex (hide H r) H3 := (e1.trans e2).trans e3
    have bfo : hide H r fo = none := fresh_back (e1.trans e2) nfo
    have base0 : Ex (hide H r) (hide H3 r) := hide_mono eB3
    -- a wall more
    have wallAdd : ∀ {H5 H6 : Hp} {us : List V} {ws : List Wl} {wv : Wl} {p : Addr}, H5 fo = some (.lst us) → Lots H5 us (ws.map tri) → H5 p = none → H6 = upd H5 p (.tup (LN (tri wv))) → Lots (upd H6 fo (.lst (us ++ [.ref p]))) (us ++ [.ref p]) ((ws ++ [wv]).map tri) := fun {H5 H6 us ws wv p} h1 h2 np h3 => by
      subst h3
      rw [List.map_append]
      have x := Ex.new (o := .tup (LN (tri wv))) np
      exact Lots.upd (ys := us) (x _ _ h1) ((h2.ext x).snoc upd_same)
    refine q_forR2 (lo := 1) (n := (n : Int)) (ea_cons ev_c (ea_cons (ev_var rfl) ea_nil)) ⟨by decide, by decide, by omega, by omega⟩
      (fun i σ H' => ∃ us ws o6 o7 o8 o9, σ = [some (.ref r), some (iN 5), some (iN 6), some (iN 1), some (iN n), some (.ref fo), o6, o7, o8, o9] ∧ Ex (hide H r) H' ∧ Row K B H' r ∧ H' fo = some (.lst us) ∧ Lots H' us (ws.map tri) ∧ ws.length ≤ 6 ∧ ∀ wl ∈ ws, WOk n wl)
      (fun H4 e4 => ⟨[], [], _, _, _, _, rfl, eB3.trans e4, row3.ext e4, e4 _ _ hfo, .nil, by decide, fun w h => nomatch h⟩) ?_ ?_
    · rintro i σ' H4 hi ⟨us, ws, o6, o7, o8, o9, rfl, e4, row4, hfo4, hls, l6, wok⟩
      have e0 : (1 : Int) + (i : Int) = ((i + 1 : Nat) : Int) := by omega
      rw [e0]
      have ulen : us.length = ws.length := by rw [hls.len, List.length_map]
      have t1 : EvT (tTest (tOp (rI0 fun i j => .bl (decide (i < j))) (tCB (rLenS K) (tCons (tVar 5) tNil)) (tVar 2))) [some (.ref r), some (iN 5), some (iN 6), some (iN 1), some (iN n), some (.ref fo), some (iN (i + 1)), o7, o8, o9] H4 (decide (ws.length < 6)) :=
        et_is (et_test (ev_op (ev_lenL (ev_var rfl) hfo4) (ev_var rfl) rv_I0)) (by rw [ulen]; exact decide_eq_decide.mpr ⟨fun h => by omega, fun h => by omega⟩)
      refine t1 H4 (Ex.refl H4) _ fun H5 e5 => ?_
      by_cases hlt : ws.length < 6
      · refine ite_t (decide_eq_true hlt) ?_
        refine r_take (K := K) (B := B) (r := r) (m := 8) (ev_var rfl) ev_c (row4.ext e5) (by decide) (by decide) fun v1 H6 hv1 e6 row6 => ⟨(v1 : Int), 0, rfl, rfl, _, rfl, ?_⟩
        have fo5 := e5 _ _ hfo4
        have fo6 : H6 fo = some (.lst us) := e6 _ _ (hide_get fo5 nfr)
        have lkeep : ∀ {Ha Hb : Hp}, Row K B Ha r → Ex (hide Ha r) Hb → Lots Ha us (ws.map tri) → Lots Hb us (ws.map tri) := fun {Ha Hb} ra eab la => by
          obtain ⟨xs, hx⟩ := ra.some
          exact (hide_lots hx (fun ys z => by cases z) la).ext eab
        have ls6 := lkeep (row4.ext e5) e6 (hls.ext e5)
        have eB6 : Ex (hide H r) H6 := (hide_mono (e4.trans e5)).trans e6
        by_cases hv0 : (0 : Int) < (v1 : Int)
        · refine ite_t (decide_eq_true hv0) ?_
          refine r_take (K := K) (B := B) (r := r) (m := i + 1) (ev_var rfl) (ev_var rfl) row6 (by omega) (by omega) fun lo H7 hlo e7 row7 => ?_
          have fo7 : H7 fo = some (.lst us) := e7 _ _ (hide_get fo6 nfr)
          have ls7 := lkeep row6 e7 ls6
          have eB7 : Ex (hide H r) H7 := (hide_mono eB6).trans e7
          refine ⟨.ref fo, rfl, Or.inl ⟨rfl, us, sq_of fo7⟩, ?_⟩
          refine ⟨iN lo, rfl, iN (i + 1), rfl, ?_⟩
          refine r_take (K := K) (B := B) (r := r) (m := 4) (ev_var rfl) ev_c row7 (by decide) (by decide) fun v2 H8 hv2 e8 row8 => ⟨(v2 : Int), 0, rfl, rfl, _, rfl, ?_⟩
          have fo8 : H8 fo = some (.lst us) := e8 _ _ (hide_get fo7 nfr)
          have ls8 := lkeep row7 e8 ls7
          have eB8 : Ex (hide H r) H8 := (hide_mono eB7).trans e8
          -- with the side
          have fin : ∀ (sd : Nat) (H9 : Hp), sd ≤ 2 → Ex (hide H r) H9 → Row K B H9 r → H9 fo = some (.lst us) → Lots H9 us (ws.map tri) → ∀ p, H9 p = none → ∃ l xs v, V.ref fo = .ref l ∧ [V.ref p] = [v] ∧ (upd H9 p (.tup [iN lo, iN (i + 1), iN sd])) l = some (.lst xs) ∧ xs.length < sizeLine ∧
              ∃ (us : List V) (ws : List Wl) (o6 o7 o8' o9' : Option V), [some (.ref r), some (iN 5), some (iN 6), some (iN 1), some (iN n), some (.ref fo), some (iN (i + 1)), some (iN lo), o8, o9] = [some (.ref r), some (iN 5), some (iN 6), some (iN 1), some (iN n), some (.ref fo), o6, o7, o8', o9'] ∧ Ex (hide H r) (upd (upd H9 p (.tup [iN lo, iN (i + 1), iN sd])) l (.lst (xs ++ [v]))) ∧ Row K B (upd (upd H9 p (.tup [iN lo, iN (i + 1), iN sd])) l (.lst (xs ++ [v]))) r ∧ (upd (upd H9 p (.tup [iN lo, iN (i + 1), iN sd])) l (.lst (xs ++ [v]))) fo = some (.lst us) ∧ Lots (upd (upd H9 p (.tup [iN lo, iN (i + 1), iN sd])) l (.lst (xs ++ [v]))) us (ws.map tri) ∧ ws.length ≤ 6 ∧ ∀ wl ∈ ws, WOk n wl := fun sd H9 hsd eB9 row9 fo9 ls9 p np => by
            have x := Ex.new (o := .tup [iN lo, iN (i + 1), iN sd]) np
            refine ⟨fo, us, .ref p, rfl, rfl, x _ _ fo9, sz_lt (by omega), us ++ [V.ref p], ws ++ [(lo, i + 1, sd)], _, _, _, _, rfl, Ex.mut (eB9.trans x) bfo, (row9.ext x).mut bfoB nfr, upd_same, wallAdd (wv := (lo, i + 1, sd)) fo9 ls9 np rfl, by rw [List.length_append, List.length_singleton]; omega, fun wl hw => ?_⟩
            rcases List.mem_append.mp hw with h | h
            · exact wok wl h
            · rw [List.mem_singleton.mp h]
              exact ⟨hlo, by show i + 1 < n; omega, hsd⟩
          by_cases hv20 : (0 : Int) < (v2 : Int)
          · refine ite_t (decide_eq_true hv20) ?_
            exact ⟨Nat.le_trans (by decide : 3 ≤ 3) (by decide), fin 0 H8 (by decide) eB8 row8 fo8 ls8⟩
          · refine ite_f (decide_eq_false hv20) ?_
            refine r_take (K := K) (B := B) (r := r) (m := 3) (ev_var rfl) (ev_is (ev_op ev_c (ev_var rfl) rv_I0) rfl) row8 (by decide) (by decide) fun sd H9 hsd e9 row9 => ?_
            exact ⟨Nat.le_trans (by decide : 3 ≤ 3) (by decide), fin sd H9 (by omega) ((hide_mono eB8).trans e9) row9 (e9 _ _ (hide_get fo8 nfr)) (lkeep row8 e9 ls8)⟩
        · refine ite_f (decide_eq_false hv0) ?_
          exact ⟨us, ws, _, _, _, _, rfl, eB6, row6, fo6, ls6, l6, wok⟩
      · refine ite_f (decide_eq_false hlt) ?_
        exact ⟨us, ws, _, _, _, _, rfl, e4.trans e5, row4.ext e5, e5 _ _ hfo4, hls.ext e5, l6, wok⟩
    · rintro σ' H4 ⟨us, ws, o6, o7, o8, o9, rfl, e4, row4, hfo4, hls, l6, wok⟩
      have ulen : us.length = ws.length := by rw [hls.len, List.length_map]
      have lkeep : ∀ {us : List V} {ws : List Wl} {Ha Hb : Hp}, Row K B Ha r → Ex (hide Ha r) Hb → Lots Ha us (ws.map tri) → Lots Hb us (ws.map tri) := fun {us ws Ha Hb} ra eab la => by
        obtain ⟨xs, hx⟩ := ra.some
        exact (hide_lots hx (fun ys z => by cases z) la).ext eab
      refine r_take (K := K) (B := B) (r := r) (m := 6 - ws.length + 1) (ev_var rfl) (ev_is (ev_op (ev_op (ev_var rfl) (ev_lenL (ev_var rfl) hfo4) rv_I0) ev_c rv_I0) (by rw [ulen]; show V.int _ = V.int _; congr 1; omega)) row4 (by omega) (by omega) fun v0 H5 hv0 e5 row5 => ?_
      have fo5 : H5 fo = some (.lst us) := e5 _ _ (hide_get hfo4 nfr)
      have ls5 := lkeep row4 e5 hls
      have eB5 : Ex (hide H r) H5 := (hide_mono e4).trans e5
      refine ⟨(v0 : Int), rfl, by omega, by omega, for_range (lo := 0) (n := ((v0 : Int)).toNat) (fun i σ H' => ∃ us ws o6 o7 o8 o9, σ = [some (.ref r), some (iN 5), some (iN 6), some (iN 1), some (iN n), some (.ref fo), o6, o7, o8, o9] ∧ Ex (hide H r) H' ∧ Row K B H' r ∧ H' fo = some (.lst us) ∧ Lots H' us (ws.map tri) ∧ ws.length + v0 ≤ 6 + i ∧ ∀ wl ∈ ws, WOk n wl)
        ⟨us, ws, _, _, _, _, rfl, eB5, row5, fo5, ls5, by omega, wok⟩ ?_ ?_⟩
      · clear hls ulen ls5 fo5 hfo4 l6
        rintro i σ' H6 hi ⟨us, ws, o6, o7, o8, o9, rfl, e6, row6, fo6, ls6, l6, wok⟩
        have hi' : i < v0 := by omega
        have ulen : us.length = ws.length := by rw [ls6.len, List.length_map]
        refine r_take (K := K) (B := B) (r := r) (m := n - 1) (ev_var rfl) (ev_is (ev_op (ev_var rfl) ev_c rv_I0) (by show V.int _ = V.int _; congr 1; omega)) row6 (by omega) (by omega) fun lo H7 hlo e7 row7 => ?_
        have fo7 : H7 fo = some (.lst us) := e7 _ _ (hide_get fo6 nfr)
        have ls7 := lkeep row6 e7 ls6
        have eB7 : Ex (hide H r) H7 := (hide_mono e6).trans e7
        refine ev_op (σ := [some (.ref r), some (iN 5), some (iN 6), some (iN 1), some (iN n), some (.ref fo), o6, some (iN lo), some (.int (0 + (i : Int))), o9]) (ta := tVar 7) (tb := tC (.int 1)) (x := iN lo) (y := .int 1) (z := .int ((lo : Int) + 1)) (r := rI0 fun i j => .int (i + j)) (ev_var rfl) ev_c rv_I0 H7 (Ex.refl H7) _ fun H8 e8 => ?_
        refine r_take (K := K) (B := B) (r := r) (σ := [some (.ref r), some (iN 5), some (iN 6), some (iN 1), some (iN n), some (.ref fo), o6, some (iN lo), some (.int (0 + (i : Int))), o9]) (m := n - 1 - lo) (ev_var rfl) (ev_is (ev_op (ev_op (ev_var rfl) ev_c rv_I0) (ev_var rfl) rv_I0) (by show V.int _ = V.int _; congr 1; omega)) (row7.ext e8) (by omega) (by omega) fun dl H9 hdl e9 row9 => ⟨(lo : Int) + 1, (dl : Int), rfl, rfl, ?_⟩
        obtain ⟨hi2, hhi⟩ : ∃ x, x = lo + 1 + dl := ⟨_, rfl⟩
        have ehi : (lo : Int) + 1 + (dl : Int) = (hi2 : Int) := by omega
        have fo9 : H9 fo = some (.lst us) := e9 _ _ (hide_get (e8 _ _ fo7) nfr)
        have ls9 := lkeep (row7.ext e8) e9 (ls7.ext e8)
        have eB9 : Ex (hide H r) H9 := (hide_mono (eB7.trans e8)).trans e9
        simp only [ehi]
        refine ⟨.ref fo, rfl, Or.inl ⟨rfl, us, sq_of fo9⟩, ?_⟩
        refine ⟨iN lo, rfl, iN hi2, rfl, ?_⟩
        refine r_take (K := K) (B := B) (r := r) (m := 3) (ev_var rfl) (ev_is (ev_op ev_c (ev_var rfl) rv_I0) rfl) row9 (by decide) (by decide) fun sd H10 hsd e10 row10 => ?_
        have fo10 : H10 fo = some (.lst us) := e10 _ _ (hide_get fo9 nfr)
        have ls10 := lkeep row9 e10 ls9
        have eB10 : Ex (hide H r) H10 := (hide_mono eB9).trans e10
        refine ⟨Nat.le_trans (by decide : 3 ≤ 3) (by decide), fun p np => ?_⟩
        have x := Ex.new (o := .tup [iN lo, iN hi2, iN sd]) np
        refine ⟨fo, us, .ref p, rfl, rfl, x _ _ fo10, sz_lt (by omega), us ++ [V.ref p], ws ++ [(lo, hi2, sd)], _, _, _, _, rfl, Ex.mut (eB10.trans x) bfo, (row10.ext x).mut bfoB nfr, upd_same, wallAdd (wv := (lo, hi2, sd)) fo10 ls10 np rfl, by rw [List.length_append, List.length_singleton]; omega, fun wl hw => ?_⟩
        rcases List.mem_append.mp hw with h | h
        · exact wok wl h
        · rw [List.mem_singleton.mp h]
          exact ⟨by show lo < hi2; omega, by show hi2 < n; omega, by show sd ≤ 2; omega⟩
      · clear hls ulen ls5 fo5 hfo4 l6
        rintro σ' H6 ⟨us, ws, o6, o7, o8, o9, rfl, e6, row6, fo6, ls6, l6, wok⟩
        refine ⟨iN n, rfl, ?_⟩
        refine (eu_tupV (K := K) (σ := [some (.ref r), some (iN 5), some (iN 6), some (iN 1), some (iN n), some (.ref fo), o6, o7, o8, o9]) (te := tVar 5) (xs := us) (ev_var rfl) fo6) H6 (Ex.refl H6) _ fun wa H7 nwa e7 hwa => ?_
        refine ⟨(by decide : 2 ≤ sizeLine), fun y ny => ?_⟩
        have x2 := Ex.new (o := .tup [iN n, .ref wa]) ny
        have row7 := row6.ext e7
        exact q y n ws _ ((e6.trans e7).trans x2) (row7.ext x2) (Y.of upd_same (x2 _ _ hwa) (ls6.ext (e7.trans x2))) (row7.ne ny) (fresh_back row7.2.1 ny) ⟨⟨n1, wok⟩, by omega, by omega⟩ n5
end
end WL


set_option Elab.async false
set_option linter.all false
set_option maxRecDepth 100000
set_option maxHeartbeats 4000000
/-! The law's days. -/
namespace WL
open PySem PySem.Spec PyProof.Rows L2 Evl WM
/- 0 _law_yard_here, 1 _law_masons, 2 _law_now, 3 _law_days_here, 4 _law_lot, 5 _law_later, 6 _law_rooms, 7 _law_adds, 8 _law_number, 9 _law_side, 10 _law_one -/
theorem sc_law_days : FnScope ["_law_yard_here", "_law_masons", "_law_now", "_law_days_here", "_law_lot", "_law_later", "_law_rooms", "_law_adds", "_law_number", "_law_side", "_law_one"] ["_law_yard_here", "_law_masons"] (tScope 46) := ⟨rfl, rfl, rfl, by decide +kernel, rfl, by decide +kernel, by decide +kernel⟩
def spDays : Sp := fun vs H Q _ => ∃ (y : Addr) (n : Nat) (ws : List Wl) (m : Nat), vs = [.ref y, iN m] ∧ Y H y n ws ∧ Yd n ws ∧ Leaves ws ∧ 1 ≤ m ∧ m ≤ 12 ∧ ∀ d, Days ws m d → RetV (iN d) H Q
/-! ### a list's lots, each once -/
def toI (q : Addr × List Nat) : Addr × List Int := (q.1, q.2.map fun n : Nat => (n : Int))
theorem toI_inj {a b : List Nat} (h : (a.map fun n : Nat => (n : Int)) = b.map fun n : Nat => (n : Int)) : a = b := LN_inj (by rw [← LN_eq, ← LN_eq, h])
theorem lots_pairs {H : Hp} {us : List V} {ls : List (List Nat)} (h : Lots H us ls) : ∃ kn : List (Addr × List Nat), us = kn.map (fun q => V.ref q.1) ∧ kn.map (·.2) = ls ∧ ∀ q ∈ kn, H q.1 = some (.tup (LN q.2)) := by
  induction h with
  | nil => exact ⟨[], rfl, rfl, fun q h => absurd h List.not_mem_nil⟩
  | @cons u l us ls h _ ih =>
    obtain ⟨a, rfl, ha⟩ := h
    obtain ⟨kn, rfl, rfl, h3⟩ := ih
    refine ⟨(a, l) :: kn, rfl, rfl, fun q hq => ?_⟩
    rcases List.mem_cons.mp hq with h | h
    · rw [h]
      exact ha
    · exact h3 q h
theorem pairs_lots {H : Hp} {kn : List (Addr × List Nat)} (h : ∀ q ∈ kn, H q.1 = some (.tup (LN q.2))) : Lots H (kn.map fun q => V.ref q.1) (kn.map (·.2)) := by
  induction kn with
  | nil => exact .nil
  | cons q kn ih => exact .cons ⟨q.1, rfl, h q (by simp)⟩ (ih fun r hr => h r (List.mem_cons_of_mem _ hr))
theorem back_toI {kn : List (Addr × List Nat)} : ∀ (L : List (Addr × List Int)), (∀ p ∈ L, p ∈ kn.map toI) → ∃ kn' : List (Addr × List Nat), L = kn'.map toI ∧ ∀ q ∈ kn', q ∈ kn
  | [], _ => ⟨[], rfl, fun q h => absurd h List.not_mem_nil⟩
  | p :: L, h => by
    obtain ⟨kn', rfl, h2⟩ := back_toI (kn := kn) L fun p hp => h p (List.mem_cons_of_mem _ hp)
    obtain ⟨q, hq, rfl⟩ := List.mem_map.mp (h p (by simp))
    refine ⟨q :: kn', rfl, fun r hr => ?_⟩
    rcases List.mem_cons.mp hr with e | hr
    · rw [e]
      exact hq
    · exact h2 r hr
section
variable {P : Program} {w : World} {K : PySem.W.Frag} {σ : L2.St} {H : Hp} {ta tb te : TE} {D : Ends} {tz : TS}
theorem few_of {kn : List (Addr × List Nat)} (h : ∀ q ∈ kn, 1 ≤ q.2.length ∧ WM.Ris q.2 ∧ ∀ x ∈ q.2, x < 6) : WR.Few (kn.map toI) := fun Dl nd sub => by
  have back : ∀ d ∈ Dl, ∃ q ∈ kn, d = q.2.map (fun n : Nat => (n : Int)) ∧ d.map Int.toNat = q.2 := fun d hd => by
    obtain ⟨p, hp, e⟩ := List.mem_map.mp (sub d hd)
    obtain ⟨q, hq, rfl⟩ := List.mem_map.mp hp
    have e : q.2.map (fun n : Nat => (n : Int)) = d := e
    refine ⟨q, hq, e.symm, ?_⟩
    rw [← e, List.map_map]
    exact List.map_id'' (fun _ => rfl) q.2
  have nd' : (Dl.map fun d => d.map Int.toNat).Nodup := by
    refine List.pairwise_map.mpr (List.Pairwise.imp_of_mem (fun {a b} ha hb ne e => ?_) nd)
    obtain ⟨q1, _, e1, f1⟩ := back a ha
    obtain ⟨q2, _, e2, f2⟩ := back b hb
    rw [f1, f2] at e
    exact ne (by rw [e1, e2, e])
  have good : ∀ l ∈ Dl.map fun d => d.map Int.toNat, 1 ≤ l.length ∧ WM.Ris l ∧ ∀ x ∈ l, x < 6 := fun l hl => by
    obtain ⟨d, hd, rfl⟩ := List.mem_map.mp hl
    obtain ⟨q, hq, _, f⟩ := back d hd
    rw [f]
    exact h q hq
  have key := few_lots (m := 6) (L := [] :: Dl.map fun d => d.map Int.toNat) (List.nodup_cons.mpr ⟨fun hn => by
    have := (good [] hn).1
    exact absurd this (by decide), nd'⟩) fun l hl => by
      rcases List.mem_cons.mp hl with e | hl
      · rw [e]
        exact ⟨.nil, fun x h => absurd h List.not_mem_nil⟩
      · exact (good l hl).2
  rw [List.length_cons, List.length_map] at key
  have : 2 ^ 6 = 64 := by decide
  omega
theorem r_uniq {a : Addr} {us : List V} {ls : List (List Nat)} (ha : Ev te σ H (.ref a)) (h1 : H a = some (.lst us)) (h2 : Lots H us ls) (hc : ∀ l ∈ ls, 1 ≤ l.length ∧ WM.Ris l ∧ ∀ x ∈ l, x < 6) :
    ∀ Q : VK, (∀ p us' ls' H2, Ex H H2 → H2 p = some (.lst us') → Lots H2 us' ls' → (∀ l, l ∈ ls' ↔ l ∈ ls) → ls'.length ≤ 64 → Q (.ref p) H2) → tCB (WR.rSortedU K P w) (tCons (tCB (WR.rSetFew K P w) (tCons te tNil)) tNil) σ H Q := fun Q q => by
  obtain ⟨kn, rfl, rfl, hk⟩ := lots_pairs h2
  have hc' : ∀ q ∈ kn, 1 ≤ q.2.length ∧ WM.Ris q.2 ∧ ∀ x ∈ q.2, x < 6 := fun q hq => hc q.2 (List.mem_map.mpr ⟨q, hq, rfl⟩)
  refine ha H (Ex.refl H) _ fun H1 e1 => ⟨a, kn.map toI, rfl, ?_, ?_, few_of hc', fun s L ns sub all => ?_⟩
  · rw [List.map_map]
    exact sq_of (e1 _ _ h1)
  · intro p hp
    obtain ⟨q, hq, rfl⟩ := List.mem_map.mp hp
    show SqT K H1 q.1 ((q.2.map fun n : Nat => (n : Int)).map V.int)
    rw [LN_eq]
    exact st_of (e1 _ _ (hk q hq))
  · obtain ⟨kL, rfl, hkL⟩ := back_toI L sub
    have x1 := Ex.new (o := SetTO P w s (kL.map toI)) ns
    refine ⟨s, kL.map toI, 6, 6, rfl, upd_same, ?_, by decide, ?_, fun L' p pm nd np => ?_⟩
    · intro p hp
      obtain ⟨q, hq, rfl⟩ := List.mem_map.mp hp
      show SqT K _ q.1 ((q.2.map fun n : Nat => (n : Int)).map V.int)
      rw [LN_eq]
      exact st_of (x1 _ _ (e1 _ _ (hk q (hkL q hq))))
    · intro p hp
      obtain ⟨q, hq, rfl⟩ := List.mem_map.mp hp
      obtain ⟨c1, c2, c3⟩ := hc' q (hkL q hq)
      refine ⟨by show 1 ≤ (q.2.map fun n : Nat => (n : Int)).length; rw [List.length_map]; exact c1, by
        show (q.2.map fun n : Nat => (n : Int)).length ≤ 6
        rw [List.length_map]
        exact pigeon_lt (WM.Ris.nodup c2) c3, fun x hx => ?_⟩
      obtain ⟨n, hn, rfl⟩ := List.mem_map.mp hx
      have := c3 n hn
      exact ⟨by omega, by omega⟩
    · obtain ⟨k', rfl, hk'⟩ := back_toI (kn := kL) L' fun p hp => pm.mem_iff.mp hp
      have x2 := Ex.new (o := .lst ((k'.map toI).map fun q => V.ref q.1)) np
      have eE := (e1.trans x1).trans x2
      have hl : Lots (L2.upd (L2.upd H1 s (SetTO P w s (kL.map toI))) p (.lst ((k'.map toI).map fun q => V.ref q.1))) ((k'.map toI).map fun q => V.ref q.1) (k'.map (·.2)) := by
        have := pairs_lots (H := L2.upd (L2.upd H1 s (SetTO P w s (kL.map toI))) p (.lst ((k'.map toI).map fun q => V.ref q.1))) (kn := k') fun q hq => eE _ _ (hk q (hkL q (hk' q hq)))
        have e : (k'.map toI).map (fun q => V.ref q.1) = k'.map fun q => V.ref q.1 := by rw [List.map_map]; rfl
        exact (congrArg (fun z => Lots (L2.upd (L2.upd H1 s (SetTO P w s (kL.map toI))) p (.lst ((k'.map toI).map fun q => V.ref q.1))) z (k'.map (·.2))) e).mpr this
      have mem : ∀ l, l ∈ k'.map (·.2) ↔ l ∈ kn.map (·.2) := fun l => by
        constructor
        · intro h
          obtain ⟨r, hr, rfl⟩ := List.mem_map.mp h
          exact List.mem_map.mpr ⟨r, hkL r (hk' r hr), rfl⟩
        · intro h
          obtain ⟨r, hr, rfl⟩ := List.mem_map.mp h
          obtain ⟨p', hp', e⟩ := List.mem_map.mp (all (toI r) (List.mem_map.mpr ⟨r, hr, rfl⟩))
          obtain ⟨r', hr', rfl⟩ := List.mem_map.mp (pm.mem_iff.mpr hp')
          exact List.mem_map.mpr ⟨r', hr', toI_inj e⟩
      have nd' : (k'.map (·.2)).Nodup := by
        have e : (k'.map toI).map (·.2) = (k'.map (·.2)).map fun l : List Nat => l.map fun n : Nat => (n : Int) := by rw [List.map_map, List.map_map]; rfl
        rw [e] at nd
        exact List.Pairwise.of_map _ (fun a b h z => h (by rw [z])) nd
      refine q p _ (k'.map (·.2)) _ eE upd_same hl mem ?_
      have := few_lots (m := 6) nd' fun l hl => by
        obtain ⟨_, c2, c3⟩ := hc l ((mem l).mp hl)
        exact ⟨c2, c3⟩
      exact this
/-- list + list -/
theorem ell_cat {a : Addr} {us : List V} {ls ms : List (List Nat)} (ha : Ev ta σ H (.ref a)) (h1 : H a = some (.lst us)) (h2 : Lots H us ls) (hb : EvLL tb σ H ms) (hz : ls.length + ms.length ≤ 100000) : EvLL (tOp rCat ta tb) σ H (ls ++ ms) := fun H1 e Q q =>
  ha H1 e _ fun H2 e2 => hb H2 (e.trans e2) _ fun p vs H3 _ e3 hp hv => ⟨a, p, us, vs, rfl, rfl, e3 _ _ (e2 _ _ (e _ _ h1)), hp, by rw [h2.len, hv.len]; exact sz_of hz, fun r nr =>
    q r (us ++ vs) _ (fresh_back (e2.trans e3) nr) ((e2.trans e3).trans (Ex.new nr)) upd_same (((h2.ext ((e.trans e2).trans e3)).app hv).ext (Ex.new nr))⟩
theorem ev_eqL0 {ls : List (List Nat)} (ha : EvLL ta σ H ls) : Ev (tOp (rEqD K) ta (tLst tNil)) σ H (.bl ls.isEmpty) := fun H1 e Q q =>
  ha H1 e _ fun p vs H2 _ e2 hp hv => ⟨Nat.zero_le _, fun r nr => ⟨_, _, .lst (sq_of ((Ex.new nr) _ _ hp)) (hv.ext (Ex.new nr)).data, dp_L (l := []) upd_same, shaped_dLL ls, shaped_dL [], by
    show Q (.bl (PyData.eqvAll (dNN ls) [])) _
    rw [eqv_nil]
    have : (dNN ls).isEmpty = ls.isEmpty := by cases ls <;> rfl
    rw [this]
    exact q _ (e2.trans (Ex.new nr))⟩⟩
/-- rooms, adds = (come(yard, lot), [()]) -/
theorem q_come {i j : Nat} {y l : Addr} {n : Nat} {ws : List Wl} {lot : List Nat} (ha : Ev ta σ H (.ref y)) (hb : Ev tb σ H (.ref l)) (hy : Y H y n ws) (yd : Yd n ws) (hl : H l = some (.tup (LN lot))) (hlot : ∀ x ∈ lot, x < ws.length)
    (k : ∀ R p q us H2, Ex H H2 → H2 p = some (.lst (LN R)) → (∀ r, r ∈ R ↔ Reach ws lot r) → H2 q = some (.lst us) → Lots H2 us [[]] → tz D ((σ.set i (some (.ref p))).set j (some (.ref q))) H2) :
    tSeq (tAsg (tTup (tCons (tCall spReached [] L2.E0 (tCons ta (tCons tb tNil))) (tCons (tLst (tCons (tTup tNil) tNil)) tNil))) (gTup K 2 (gCons (gName i) (gCons (gName j) gNil)))) tz D σ H :=
  ha H (Ex.refl H) _ fun H1 e1 => hb H1 e1 _ fun H2 e2 => ⟨y, l, n, ws, lot, rfl, hy.ext (e1.trans e2), yd, e2 _ _ (e1 _ _ hl), hlot, fun R p H3 e3 hp hR => ⟨Nat.zero_le _, fun t nt => ⟨(by decide : 1 ≤ sizeLine), fun q nq => ⟨(by decide : 2 ≤ sizeLine), fun u nu => by
    have x1 := Ex.new (o := .tup []) nt
    have x2 := Ex.new (o := .lst [.ref t]) nq
    have x3 := Ex.new (o := .tup [.ref p, .ref q]) nu
    refine ⟨u, [.ref p, .ref q], rfl, st_of upd_same, rfl, _, _, rfl, _, _, rfl, rfl, ?_⟩
    exact k R p q [.ref t] _ ((((e1.trans e2).trans e3).trans x1).trans (x2.trans x3)) ((x1.trans (x2.trans x3)) _ _ hp) hR (x3 _ _ upd_same) (.cons ⟨t, rfl, (x2.trans x3) _ _ upd_same⟩ .nil)⟩⟩⟩⟩
end
section
variable {P : Program} {w : World} {K : PySem.W.Frag} {mg : Str → Option Value} {base : Heap}
theorem ok_law_days (g_law_come : Cal P w K mg base 2 "_law_come" spReached) (g_law_sides : Cal P w K mg base 1 "_law_sides" spSides) (T : Tx K mg) (D : Df K mg "_law_days" 46) : Cal P w K mg base 3 "_law_days" spDays := by
  refine D.cal sc_law_days (fun vs H Q E h => ?_) (fun _ _ _ _ _ _ us hl => match us, hl with | [_, _], _ => rfl) (fun f cdv A outer s H vs Q E hr h => ?_)
  · obtain ⟨y, n, ws, m, rfl, _⟩ := h
    rfl
  · obtain ⟨y, n, ws, m, rfl, hy, yd, lv, m1, m12, k⟩ := h
    have hr64 := hr.units
    refine ⟨_, (pss_cons (ps_par (i := 2) (j := 3) rfl sc_law_days.nd rfl rfl (by decide) rfl rfl (pa_cons (pe_lst (pa_cons (pe_tup pa_nil) pa_nil)) (pa_cons pe_int pa_nil)) (by rfl))
      (pss_cons (ps_while PassesOwn.never (pt_cmpR (k_eqD (K := K) rfl hr64) (pe_lc (own := [("_law_lot", 4)]) (g := gName 4) rfl sc_law_days.nd (k_pl (K := K) rfl (pv 2)) (blkOk_by (by kernel_rfl)) (fun _ _ _ _ _ => pg_name (i := 4) sc_law_days.nd rfl (by first | exact Or.inl rfl | exact Or.inr rfl)) (fun _ _ _ _ _ => pts_one (pt_cmpR op_eq (pe_callB (k_len (K := K) rfl) (by rfl) T.b_len (by decide +kernel) (pa_cons (pv 4) pa_nil)) (pe_callB (k_len (K := K) rfl) (by rfl) T.b_len (by decide +kernel) (pa_cons (pe_ix (k_ixT (K := K) rfl) (pv 0) pe_int (fun _ _ => rfl)) pa_nil)) (nomark _))) (fun _ _ _ _ _ => (pv 4))) (pe_lst pa_nil) (nomark _))
        (pss_cons (ps_set (i := 5) sc_law_days.nd rfl (by first | exact Or.inl rfl | exact Or.inr rfl) (pe_lst pa_nil))
        (pss_cons (ps_for PassesOwn.never rfl (k_pl (K := K) rfl (pv 2)) (pg_name (i := 4) sc_law_days.nd rfl (by first | exact Or.inl rfl | exact Or.inr rfl))
          (pss_cons (ps_asg (pe_tup (pa_cons (pcall g_law_come hr (by decide) rfl (pa_cons (pv 0) (pa_cons (pv 4) pa_nil))) (pa_cons (pe_lst (pa_cons (pe_tup pa_nil) pa_nil)) pa_nil))) (k_gtup (K := K) rfl (by rfl) (pgs_cons (pg_name (i := 6) sc_law_days.nd rfl (by first | exact Or.inl rfl | exact Or.inr rfl)) (pgs_cons (pg_name (i := 7) sc_law_days.nd rfl (by first | exact Or.inl rfl | exact Or.inr rfl)) pgs_nil))))
          (pss_cons (ps_for PassesOwn.never rfl (pi_range1 (by rfl) T.b_range (pa_cons (pe_callB (k_len (K := K) rfl) (by rfl) T.b_len (by decide +kernel) (pa_cons (pe_ix (k_ixT (K := K) rfl) (pv 0) pe_int (fun _ _ => rfl)) pa_nil)) pa_nil)) (pg_name (i := 8) sc_law_days.nd rfl (by first | exact Or.inl rfl | exact Or.inr rfl))
            (pss_one (ps_if (PW.pt (pw_and (pt_cmpR (k_nin (K := K) rfl) (pv 8) (pv 4) (by with_unfolding_all rfl)) (pw_and1 (pt_cmpR (k_neD (K := K) rfl hr64) (pe_lc (own := [("_law_side", 9)]) (g := gName 9) rfl sc_law_days.nd (k_pt (K := K) rfl (pcall g_law_sides hr (by decide) rfl (pa_cons (pe_ix (k_ixT (K := K) rfl) (pe_ix (k_ixT (K := K) rfl) (pv 0) pe_int (fun _ _ => rfl)) (pv 8) (fun _ _ => rfl)) pa_nil))) (blkOk_by (by kernel_rfl)) (fun _ _ _ _ _ => pg_name (i := 9) sc_law_days.nd rfl (by first | exact Or.inl rfl | exact Or.inr rfl)) (fun _ _ _ _ _ => pts_one (pt_cmpR (k_in (K := K) rfl) (pv 9) (pv 6) (by with_unfolding_all rfl))) (fun _ _ _ _ _ => (pv 9))) (pe_lst pa_nil) (nomark _))))) (pss_one (ps_set (i := 7) sc_law_days.nd rfl (by first | exact Or.inl rfl | exact Or.inr rfl) (pe_op op_cat (pv 7) (pe_lc (own := [("_law_one", 10)]) (g := gName 10) rfl sc_law_days.nd (k_pl (K := K) rfl (pv 7)) (blkOk_by (by kernel_rfl)) (fun _ _ _ _ _ => pg_name (i := 10) sc_law_days.nd rfl (by first | exact Or.inl rfl | exact Or.inr rfl)) (fun _ _ _ _ _ => pts_one (pt_cmpR op_lt (pe_callB (k_len (K := K) rfl) (by rfl) T.b_len (by decide +kernel) (pa_cons (pv 10) pa_nil)) (pv 1) (nomark _))) (fun _ _ _ _ _ => (pe_op (k_cat (K := K) rfl) (pv 10) (pe_tup (pa_cons (pv 8) pa_nil)))))))) pss_nil)))
          (pss_one (ps_set (i := 5) sc_law_days.nd rfl (by first | exact Or.inl rfl | exact Or.inr rfl) (pe_op op_cat (pv 5) (pe_lc (own := [("_law_one", 10)]) (g := gName 10) rfl sc_law_days.nd (k_pl (K := K) rfl (pv 7)) (blkOk_by (by kernel_rfl)) (fun _ _ _ _ _ => pg_name (i := 10) sc_law_days.nd rfl (by first | exact Or.inl rfl | exact Or.inr rfl)) (fun _ _ _ _ _ => pts_one (pt_cmpR (k_neD (K := K) rfl hr64) (pv 10) (pe_tup pa_nil) (nomark _))) (fun _ _ _ _ _ => (pe_callTy (k_tupOf (K := K) rfl) (by rfl) T.b_tuple (by decide +kernel) (pa_cons (pe_callB (k_sortT (K := K) rfl) (by rfl) T.b_sorted (by decide +kernel) (pa_cons (pe_op (k_cat (K := K) rfl) (pv 4) (pv 10)) pa_nil)) pa_nil))))))))))
        (pss_one (ps_par (i := 2) (j := 3) rfl sc_law_days.nd rfl rfl (by decide) rfl rfl (pa_cons (pe_callB (WR.cr_sortedU rfl) (by rfl) T.b_sorted (by decide +kernel) (pa_cons (pe_callTy (WR.cr_setFew rfl hr64) (by rfl) T.b_set (by decide +kernel) (pa_cons (pv 5) pa_nil)) pa_nil)) (pa_cons (pe_op op_add (pv 3) pe_int) pa_nil)) (by rfl))))))
      (pss_one (ps_ret (pv 3))))), ?_⟩
    have h6 := yd.few
    refine ⟨Nat.zero_le _, fun p0 n0 => ⟨(by decide : 1 ≤ sizeLine), fun nw nnw => ⟨_, _, rfl, ?_⟩⟩⟩
    have x1 := Ex.new (o := .tup []) n0
    have x2 := Ex.new (o := .lst [.ref p0]) nnw
    refine q_while (fun v σ H' => ∃ nw us ls t o4 o5 o6 o7 o8 o9 o10, σ = [some (.ref y), some (iN m), some (.ref nw), some (iN t), o4, o5, o6, o7, o8, o9, o10] ∧ Ex H H' ∧ H' nw = some (.lst us) ∧ Lots H' us ls ∧ ls.length ≤ 64 ∧ (∀ l, l ∈ ls ↔ LS ws m t l) ∧ (∀ j, j < t → ¬ LS ws m j (evy ws)) ∧ (∃ L, LS ws m t L) ∧ v = ws.length + 1 - t)
      (ws.length + 1) ⟨nw, [.ref p0], [[]], 0, _, _, _, _, _, _, _, rfl, x1.trans x2, upd_same, .cons ⟨p0, rfl, x2 _ _ upd_same⟩ .nil, Nat.le_of_ble_eq_true rfl, fun l => ⟨fun h => by rw [List.mem_singleton.mp h]; exact .zero, fun h => by cases h; simp⟩, fun j hj => absurd hj (Nat.not_lt_zero _), ⟨[], .zero⟩, rfl⟩ ?_
    rintro v σ H1 ⟨nw, us, ls, t, o4, o5, o6, o7, o8, o9, o10, rfl, e1, hnw, hls, l64, lmem, no, ⟨L0, hL0⟩, rfl⟩
    have cond : Ev _ [some (.ref y), some (iN m), some (.ref nw), some (iN t), o4, o5, o6, o7, o8, o9, o10] H1 (.bl (decide (evy ws ∉ ls))) := ev_is (ev_eqL0 (K := K) (ell_LL (K := K) (ls := ls) (us := us) (j := 4) (vs := [4]) (tl := tVar 2) (te := tVar 4) (t := tTest (tOp rEq (tCB (rLenS K) (tCons (tVar 4) tNil)) (tCB (rLenS K) (tCons (tOp (rIxT K) (tVar 0) (tC (.int 1))) tNil)))) (fun l => decide (l.length = ws.length)) (fun l => l) (ev_var rfl) hnw hls (by omega) (fun _ => rfl)
      (fun l hl b H2 e2 hb => et_is (et_test (ev_op (ev_lenT (ev_var rfl) hb) (ev_ylen (hy.ext (e1.trans e2)) (ev_var rfl) ev_c) (rv_eq rfl))) (by rw [LN_len]; exact decide_eq_decide.mpr ⟨fun h => by injection h with h; omega, fun h => by rw [h]⟩)) (fun l hl _ b H2 e2 hb => ep_var rfl hb))) (by
        congr 1
        by_cases h : evy ws ∈ ls
        · rw [decide_eq_false (fun z => z h), List.isEmpty_eq_false_iff]
          intro z
          have hm : evy ws ∈ ls.filter fun l => decide (l.length = ws.length) := List.mem_filter.mpr ⟨h, decide_eq_true (by unfold evy; rw [List.length_range])⟩
          have : evy ws ∈ (ls.filter fun l => decide (l.length = ws.length)).map fun l => l := List.mem_map.mpr ⟨_, hm, rfl⟩
          rw [z] at this
          exact List.not_mem_nil this
        · rw [decide_eq_true h, List.isEmpty_iff, List.map_eq_nil_iff, List.filter_eq_nil_iff]
          intro l hl e
          exact h ((LS.full ((lmem l).mp hl) (of_decide_eq_true e)) ▸ hl))
    refine ⟨_, et_test cond, fun hb H2 e2 => ?_, fun hb H2 e2 => ?_⟩
    · have hb : evy ws ∉ ls := of_decide_eq_true hb
      have t6 : t ≤ ws.length := by
        have h1 := hL0.ok
        have := pigeon_lt (WM.Ris.nodup h1.1) h1.2.1
        omega
      obtain ⟨L1, hL1⟩ := LS.next lv m1 hL0 (fun z => hb ((lmem _).mpr (z ▸ hL0)))
      refine ⟨fun σ2 H3 => ∃ nw us ls o4 o5 o6 o7 o8 o9 o10, σ2 = [some (.ref y), some (iN m), some (.ref nw), some (iN (t + 1)), o4, o5, o6, o7, o8, o9, o10] ∧ Ex H H3 ∧ H3 nw = some (.lst us) ∧ Lots H3 us ls ∧ ls.length ≤ 64 ∧ ∀ l, l ∈ ls ↔ LS ws m (t + 1) l, ?_, ?_⟩
      · rintro σ2 H3 ⟨nw, us, ls2, o4, o5, o6, o7, o8, o9, o10, rfl, a, b, c, d, e⟩
        refine ⟨ws.length + 1 - (t + 1), by omega, nw, us, ls2, t + 1, _, _, _, _, _, _, _, rfl, a, b, c, d, e, fun j hj => ?_, ⟨L1, hL1⟩, rfl⟩
        by_cases ej : j = t
        · subst ej
          exact fun h => hb ((lmem _).mpr h)
        · exact no j (by omega)
      refine q_asgL el_none fun la H3 _ e3 hla => ?_
      have e13 := (e1.trans e2).trans e3
      have hls3 := hls.ext (e2.trans e3)
      have hnw3 := e3 _ _ (e2 _ _ hnw)
      refine q_forLn (a := nw) (xs := us) (ev_var rfl) (sq_of hnw3) (fun i σ H' => ∃ la vs ms o4 o6 o7 o8 o9 o10, σ = [some (.ref y), some (iN m), some (.ref nw), some (iN t), o4, some (.ref la), o6, o7, o8, o9, o10] ∧ Ex H3 H' ∧ H' la = some (.lst vs) ∧ Lots H' vs ms ∧ ms.length ≤ i * 64 ∧ ∀ l, l ∈ ms ↔ ∃ L A, L ∈ ls.take i ∧ A ≠ [] ∧ WM.Ris A ∧ (∀ x ∈ A, x ∈ come ws L) ∧ A.length ≤ m ∧ l = sortN (L ++ A))
        (fun H4 e4 => ⟨la, [], [], _, _, _, _, _, _, rfl, e4, e4 _ _ hla, .nil, Nat.zero_le _, fun l => ⟨fun h => absurd h List.not_mem_nil, fun ⟨L, A, h, _⟩ => by simp at h⟩⟩) (fun i σ' H' _ p => by obtain ⟨_, _, _, _, _, _, _, _, _, _, e, _⟩ := p; exact sq_of (e _ _ hnw3)) ?_ ?_
      · rintro i x σ' H4 hx ⟨la, vs, ms, o4, o6, o7, o8, o9, o10, rfl, e4, hla4, hms, mlen, mmem⟩
        obtain ⟨b, L, rfl, hL, hb4⟩ := (hls3.ext e4).get hx
        have hLS : LS ws m t L := (lmem L).mp (List.mem_of_getElem? hL)
        have hLok := hLS.ok
        have Llen : L.length ≤ 6 := by
          have := pigeon_lt (WM.Ris.nodup hLok.1) hLok.2.1
          omega
        have i64 : i < 64 := by
          have h1 := (List.getElem?_eq_some_iff.mp hx).1
          have h2 := hls3.len
          omega
        have e14 := e13.trans e4
        show tSeq _ _ _ _ _
        refine q_come (y := y) (l := b) (ev_var rfl) (ev_var rfl) (hy.ext e14) yd hb4 hLok.2.1 fun R rm q0 us0 H5 e5 hrm hR hq0 hus0 => ?_
        have e15 := e14.trans e5
        have hb5 := e5 _ _ hb4
        refine q_forR1 (n := (ws.length : Int)) (ea_cons (ev_ylen (hy.ext e15) (ev_var rfl) ev_c) ea_nil) ⟨by omega, by omega⟩ (fun j σ H' => ∃ qa ua As o8 o9 o10, σ = [some (.ref y), some (iN m), some (.ref nw), some (iN t), some (.ref b), some (.ref la), some (.ref rm), some (.ref qa), o8, o9, o10] ∧ Ex H5 H' ∧ H' qa = some (.lst ua) ∧ Lots H' ua As ∧ As.length ≤ 2 ^ j ∧ ∀ l, l ∈ As ↔ WM.Ris l ∧ (∀ x ∈ l, x ∈ come ws L ∧ x < j) ∧ l.length ≤ m)
          (fun H6 e6 => ⟨q0, us0, [[]], _, _, _, rfl, e6, e6 _ _ hq0, hus0.ext e6, Nat.le_refl _, fun l => ⟨fun h => by rw [List.mem_singleton.mp h]; exact ⟨.nil, fun x h => absurd h List.not_mem_nil, Nat.zero_le _⟩, fun ⟨_, h, _⟩ => by
            cases l with
            | nil => simp
            | cons x l => exact absurd (h x (by simp)).2 (Nat.not_lt_zero _)⟩⟩) ?_ ?_
        · rintro j σ' H6 hj ⟨qa, ua, As, o8, o9, o10, rfl, e6, hqa, hAs, alen, amem⟩
          have hj' : j < ws.length := by omega
          have p6 : 2 ^ (j + 1) ≤ 2 ^ 6 := Nat.pow_le_pow_right (by decide) (by omega)
          have p6' : 2 ^ 6 = 64 := by decide
          have ps : 2 ^ (j + 1) = 2 ^ j * 2 := Nat.pow_succ ..
          obtain ⟨wl, hw⟩ : ∃ wl, ws[j]? = some wl := ⟨_, List.getElem?_eq_getElem hj'⟩
          obtain ⟨wa, hwa, ew⟩ := ev_wall (K := K) (σ := [some (.ref y), some (iN m), some (.ref nw), some (iN t), some (.ref b), some (.ref la), some (.ref rm), some (.ref qa), some (iN j), none, o10]) (ta := tVar 0) (tb := tC (.int 1)) (tc := tVar 8) (hy.ext (e15.trans e6)) hw (ev_var rfl) ev_c (ev_var rfl)
          obtain ⟨wa', hwa', ew'⟩ := ev_wall (K := K) (σ := [some (.ref y), some (iN m), some (.ref nw), some (iN t), some (.ref b), some (.ref la), some (.ref rm), some (.ref qa), some (iN j), o9, o10]) (ta := tVar 0) (tb := tC (.int 1)) (tc := tVar 8) (hy.ext (e15.trans e6)) hw (ev_var rfl) ev_c (ev_var rfl)
          have cj : (decide (j ∉ L) && rdy ws L j) = decide (j ∈ come ws L) := by
            by_cases h : j ∈ come ws L
            · obtain ⟨⟨_, h1⟩, h2⟩ := mem_come.mp h
              rw [decide_eq_true h1, rdy_t h2, decide_eq_true h]
              rfl
            · rw [decide_eq_false h]
              by_cases h1 : j ∈ L
              · rw [decide_eq_false (fun z => z h1)]
                rfl
              · rw [rdy_f fun h2 => h (mem_come.mpr ⟨⟨hj', h1⟩, h2⟩), Bool.and_false]
          refine s_when (b := decide (j ∈ come ws L)) (et_is (et_and (et_test (ev_niTn (ev_var rfl) (ep_var rfl (e6 _ _ hb5)))) fun _ => et_is (et_test (ev_neLL (el_rdy (e6 _ _ hrm) (ep_c1 (sp := spSides) (ea_cons ew' ea_nil) fun H7 e7 Q q => ⟨wa', wl, rfl, e7 _ _ hwa', (yd.ok hw).2.2, q⟩) (fun _ => rfl) (fun _ => rfl) (fun _ => rfl)) el_none)) (rdy_eq hw hR)) cj) (fun hc H7 e7 => ?_) (fun hc H7 e7 => ?_)
          · have hc : j ∈ come ws L := of_decide_eq_true hc
            have few : (((As.filter fun l => decide (l.length < m)).map fun l => l ++ [j])).length ≤ As.length := by
              rw [List.length_map]
              exact List.length_filter_le _ _
            refine s_asgLL (ell_cat (ls := As) (ms := (As.filter fun l => decide (l.length < m)).map fun l => l ++ [j]) (ev_var rfl) (e7 _ _ hqa) (hAs.ext e7) (ell_LL (ls := As) (us := ua) (fun l => decide (l.length < m)) (fun l => l ++ [j]) (ev_var rfl) (e7 _ _ hqa) (hAs.ext e7) (by omega) (fun _ => rfl)
              (fun l hl c H8 e8 hc8 => et_is (et_test (ev_op (ev_lenT (ev_var rfl) hc8) (ev_var rfl) rv_I0)) (by rw [LN_len]; exact decide_eq_decide.mpr ⟨fun h => by omega, fun h => by omega⟩))
              (fun l hl hf c H8 e8 hc8 => ep_cat (a := l) (b := [j]) (ep_var rfl hc8) (EvP.of (eu_tup (ea_cons (ev_var rfl) ea_nil) (Nat.le_of_ble_eq_true rfl))) (by have := ((amem l).mp hl).2.2; simp; omega))) (by omega)) fun qa' ua' H8 _ e8 hqa' hua' => ?_
            refine ⟨qa', ua', _, _, _, _, rfl, (e6.trans e7).trans e8, hqa', hua', by rw [List.length_append]; omega, fun l => ?_⟩
            rw [List.mem_append]
            constructor
            · rintro (h | h)
              · obtain ⟨h1, h2, h3⟩ := (amem l).mp h
                exact ⟨h1, fun x hx => ⟨(h2 x hx).1, by have := (h2 x hx).2; omega⟩, h3⟩
              · obtain ⟨l', hl', rfl⟩ := List.mem_map.mp h
                obtain ⟨hA, hf⟩ := List.mem_filter.mp hl'
                obtain ⟨h1, h2, h3⟩ := (amem l').mp hA
                have hf := of_decide_eq_true hf
                refine ⟨List.pairwise_append.mpr ⟨h1, by simp, fun a ha c hc' => ?_⟩, fun x hx => ?_, by rw [List.length_append, List.length_singleton]; omega⟩
                · rw [List.mem_singleton.mp hc']
                  exact (h2 a ha).2
                · rcases List.mem_append.mp hx with h | h
                  · exact ⟨(h2 x h).1, by have := (h2 x h).2; omega⟩
                  · rw [List.mem_singleton.mp h]
                    exact ⟨hc, by omega⟩
            · rintro ⟨h1, h2, h3⟩
              by_cases hjl : j ∈ l
              · right
                have hne : l ≠ [] := fun z => by rw [z] at hjl; exact List.not_mem_nil hjl
                obtain ⟨l', z, rfl⟩ : ∃ l' z, l = l' ++ [z] := ⟨l.dropLast, l.getLast hne, (List.dropLast_concat_getLast hne).symm⟩
                have pp := List.pairwise_append.mp h1
                have zj : z = j := by
                  rcases List.mem_append.mp hjl with h | h
                  · have h4 := pp.2.2 j h z (by simp)
                    have h5 := (h2 z (by simp)).2
                    omega
                  · exact (List.mem_singleton.mp h).symm
                subst zj
                rw [List.length_append, List.length_singleton] at h3
                refine List.mem_map.mpr ⟨l', List.mem_filter.mpr ⟨(amem l').mpr ⟨pp.1, fun x hx => ⟨(h2 x (List.mem_append_left _ hx)).1, pp.2.2 x hx z (by simp)⟩, by omega⟩, decide_eq_true (by omega)⟩, rfl⟩
              · left
                refine (amem l).mpr ⟨h1, fun x hx => ⟨(h2 x hx).1, ?_⟩, h3⟩
                have h4 := (h2 x hx).2
                by_cases e : x = j
                · subst e
                  exact absurd hx hjl
                · omega
          · have hc : j ∉ come ws L := of_decide_eq_false hc
            refine ⟨qa, ua, As, _, _, _, rfl, e6.trans e7, e7 _ _ hqa, hAs.ext e7, by omega, fun l => ?_⟩
            rw [amem]
            constructor
            · rintro ⟨h1, h2, h3⟩
              exact ⟨h1, fun x hx => ⟨(h2 x hx).1, by have := (h2 x hx).2; omega⟩, h3⟩
            · rintro ⟨h1, h2, h3⟩
              refine ⟨h1, fun x hx => ⟨(h2 x hx).1, ?_⟩, h3⟩
              have h4 := (h2 x hx).2
              by_cases e : x = j
              · subst e
                exact absurd (h2 x hx).1 hc
              · omega
        · rintro σ' H6 ⟨qa, ua, As, o8, o9, o10, rfl, e6, hqa, hAs, alen, amem⟩
          have alen : As.length ≤ 64 := Nat.le_trans alen (Nat.pow_le_pow_right (by decide) (by omega : ((ws.length : Int)).toNat ≤ 6))
          have e46 := e5.trans e6
          have few : (((As.filter fun l => !decide (l = [])).map fun l => sortN (L ++ l))).length ≤ As.length := by
            rw [List.length_map]
            exact List.length_filter_le _ _
          have aok : ∀ l, l ∈ As ↔ WM.Ris l ∧ (∀ x ∈ l, x ∈ come ws L) ∧ l.length ≤ m := fun l => by
            rw [amem]
            constructor
            · rintro ⟨h1, h2, h3⟩
              exact ⟨h1, fun x hx => (h2 x hx).1, h3⟩
            · rintro ⟨h1, h2, h3⟩
              exact ⟨h1, fun x hx => ⟨h2 x hx, by have := (mem_come.mp (h2 x hx)).1.1; omega⟩, h3⟩
          refine s_asgLL (ell_cat (ls := ms) (ms := (As.filter fun l => !decide (l = [])).map fun l => sortN (L ++ l)) (ev_var rfl) (e46 _ _ hla4) (hms.ext e46) (ell_LL (ls := As) (us := ua) (fun l => !decide (l = [])) (fun l => sortN (L ++ l)) (ev_var rfl) hqa hAs (by omega) (fun _ => rfl)
            (fun l hl c H8 e8 hc8 => et_test (ev_nePP (ep_var rfl hc8) ep_nil))
            (fun l hl hf c H8 e8 hc8 => EvP.of (eu_tupL (el_sortT (ep_cat (ep_var rfl (e8 _ _ (e6 _ _ hb5))) (ep_var rfl hc8) (by have := ((aok l).mp hl).2.2; omega)) (by rw [List.length_append]; have := ((aok l).mp hl).2.2; omega))))) (by omega)) fun la' vs' H8 _ e8 hla' hvs' => ?_
          refine ⟨la', vs', _, _, _, _, _, _, _, rfl, (e4.trans e46).trans e8, hla', hvs', by rw [List.length_append]; omega, fun l => ?_⟩
          rw [List.mem_append, mmem, List.take_add_one, hL]
          constructor
          · rintro (⟨L', A, h1, h2⟩ | h)
            · exact ⟨L', A, List.mem_append_left _ h1, h2⟩
            · obtain ⟨A, hA, rfl⟩ := List.mem_map.mp h
              obtain ⟨hA, hf⟩ := List.mem_filter.mp hA
              obtain ⟨h1, h2, h3⟩ := (aok A).mp hA
              exact ⟨L, A, List.mem_append_right _ (by simp), by simpa using hf, h1, h2, h3, rfl⟩
          · rintro ⟨L', A, h1, h2, h3, h4, h5, h6'⟩
            rcases List.mem_append.mp h1 with h | h
            · exact Or.inl ⟨L', A, h, h2, h3, h4, h5, h6'⟩
            · have : L' = L := by simpa using h
              subst this
              exact Or.inr (List.mem_map.mpr ⟨A, List.mem_filter.mpr ⟨(aok A).mpr ⟨h3, h4, h5⟩, by simpa using h2⟩, h6'.symm⟩)
      · rintro σ' H4 ⟨la, vs, ms, o4, o6, o7, o8, o9, o10, rfl, e4, hla4, hms, mlen, mmem⟩
        rw [hls3.len, List.take_length] at mmem
        have lsm : ∀ l, l ∈ ms ↔ LS ws m (t + 1) l := fun l => by
          rw [mmem]
          constructor
          · rintro ⟨L, A, h1, h2, h3, h4, h5, rfl⟩
            exact .step ((lmem L).mp h1) h2 h3 h4 h5 (sortN_adds L A)
          · intro h
            cases h with
            | @step _ L A _ g hne hA hc hl ha =>
              exact ⟨L, A, (lmem L).mpr g, hne, hA, hc, hl, ha.uniq (sortN_adds L A) g.ok.1 hA fun x hx => (mem_come.mp (hc x hx)).1.2⟩
        refine r_uniq (P := P) (w := w) (K := K) (te := tVar 5) (σ := [some (.ref y), some (iN m), some (.ref nw), some (iN t), o4, some (.ref la), o6, o7, o8, o9, o10]) (ev_var rfl) hla4 hms (fun l hl => ?_) _ fun p us' ls' H5 e5 hp hus' mem' l64' => ?_
        · have h := ((lsm l).mp hl).ok
          exact ⟨by have := h.2.2; omega, h.1, fun x hx => by have := h.2.1 x hx; omega⟩
        · refine (ev_op (σ := [some (.ref y), some (iN m), some (.ref nw), some (iN t), o4, some (.ref la), o6, o7, o8, o9, o10]) (ta := tVar 3) (tb := tC (.int 1)) (x := iN t) (y := .int 1) (z := iN (t + 1)) (r := rI0 fun i j => .int (i + j)) (ev_var rfl) ev_c rv_I0) H5 (Ex.refl H5) _ fun H6 e6 => ⟨_, _, rfl, ?_⟩
          exact ⟨p, us', ls', _, _, _, _, _, _, _, rfl, (e13.trans e4).trans (e5.trans e6), e6 _ _ hp, hus'.ext e6, l64', fun l => by rw [mem', lsm]⟩
    · have hb : evy ws ∈ ls := by simpa using hb
      exact s_ret (v := iN t) (ev_var rfl) fun H3 e3 => k t ⟨(lmem _).mp hb, no⟩ H3 ((e1.trans e2).trans e3)
end
end WL


set_option Elab.async false
set_option linter.all false
set_option maxRecDepth 100000
set_option maxHeartbeats 4000000
/-! Plans and days, plain. -/
namespace WL
open PySem PySem.Spec PyProof.Rows L2 Evl WM
theorem loopOk_snoc {ws : List Wl} : ∀ (xs : List (List Nat)) (b x : List Nat), loopOk ws b (xs ++ [x]) = (loopOk ws b xs && stepOk ws (b ++ xs.flatten) x)
  | [], b, x => by
    show (stepOk ws b x && true) = (true && stepOk ws (b ++ []) x)
    rw [Bool.and_true, Bool.true_and, List.append_nil]
  | y :: xs, b, x => by
    show (stepOk ws b y && loopOk ws (b ++ y) (xs ++ [x])) = ((stepOk ws b y && loopOk ws (b ++ y) xs) && stepOk ws (b ++ (y :: xs).flatten) x)
    rw [loopOk_snoc xs (b ++ y) x, List.flatten_cons, List.append_assoc, Bool.and_assoc]
theorem sort_ris {l l' : List Nat} (nd : l.Nodup) (h : WM.Ris l') (m : ∀ x, x ∈ l ↔ x ∈ l') : sortN l = l' := by
  have nd' : (sortN l).Nodup := (sortN_perm l).nodup_iff.mpr nd
  have r : WM.Ris (sortN l) := ((sortN_up l).and nd').imp fun q => by omega
  exact ris_ext r h fun x => by rw [(sortN_perm l).mem_iff, m]
/-! ### the late plan is a plan -/
noncomputable def levs (ws : List Wl) (n : Nat) : List (List Nat) := (List.range n).map (level ws)
theorem levs_succ (ws : List Wl) (n : Nat) : levs ws (n + 1) = levs ws n ++ [level ws n] := by
  unfold levs
  rw [List.range_succ, List.map_append]
  rfl
theorem levs_mem (ws : List Wl) (n x : Nat) : x ∈ (levs ws n).flatten ↔ x ∈ upto ws n := by
  rw [List.mem_flatten, mem_upto]
  constructor
  · rintro ⟨l, hl, hx⟩
    obtain ⟨c, hc, rfl⟩ := List.mem_map.mp hl
    obtain ⟨h1, h2⟩ := mem_level.mp hx
    exact ⟨h1, c, List.mem_range.mp hc, h2⟩
  · rintro ⟨h1, b, hb, h2⟩
    exact ⟨level ws b, List.mem_map.mpr ⟨b, List.mem_range.mpr hb, rfl⟩, mem_level.mpr ⟨h1, h2⟩⟩
theorem levs_nd (ws : List Wl) : ∀ n, (levs ws n).flatten.Nodup
  | 0 => by simp [levs]
  | n + 1 => by
    rw [levs_succ, List.flatten_append, List.nodup_append]
    refine ⟨levs_nd ws n, ?_, fun a ha b hb e => ?_⟩
    · simp only [List.flatten_cons, List.flatten_nil, List.append_nil]
      exact WM.Ris.nodup (ris_level ws n)
    · simp only [List.flatten_cons, List.flatten_nil, List.append_nil] at hb
      subst e
      obtain ⟨_, c, hc, h2⟩ := mem_upto.mp ((levs_mem ws n a).mp ha)
      have := h2.uniq (mem_level.mp hb).2
      omega
theorem levs_sort (ws : List Wl) (n : Nat) : sortN (levs ws n).flatten = upto ws n := sort_ris (levs_nd ws n) (ris_upto ws n) (levs_mem ws n)
theorem levs_ok {ws : List Wl} {c : Nat} (h : Top ws c) : ∀ n, n ≤ c + 1 → loopOk ws [] (levs ws n) = true
  | 0, _ => rfl
  | n + 1, hn => by
    rw [levs_succ, loopOk_snoc, levs_ok h n (by omega), Bool.true_and, List.nil_append]
    unfold stepOk
    rw [levs_sort, decide_eq_false (h.level_ne (by omega)), risB_eq.mpr (ris_level ws n)]
    show (true && _) = true
    rw [Bool.true_and, List.all_eq_true]
    exact fun x hx => decide_eq_true (level_come hx)
theorem plan_rev (ws : List Wl) (m : Nat) : (plan ws m).reverse = levs ws m := by
  unfold plan levs
  rw [← List.map_reverse]
  refine List.ext_getElem? fun i => ?_
  rw [List.getElem?_map, List.getElem?_map]
  by_cases hi : i < m
  · rw [List.getElem?_reverse (by rw [List.length_range]; exact hi), List.length_range, List.getElem?_range (by omega), List.getElem?_range hi]
    show some (level ws (m - 1 - (m - 1 - i))) = some (level ws i)
    rw [show m - 1 - (m - 1 - i) = i by omega]
  · rw [List.getElem?_eq_none (by rw [List.length_reverse, List.length_range]; omega), List.getElem?_eq_none (by rw [List.length_range]; omega)]
    rfl
theorem plan_len (ws : List Wl) (m : Nat) : (plan ws m).length = m := by
  unfold plan
  rw [List.length_map, List.length_range]
theorem plan_perm (ws : List Wl) (m : Nat) : (plan ws m).flatten.Perm (levs ws m).flatten := by
  rw [← plan_rev]
  exact (List.reverse_perm _).symm.flatten
theorem plan_ok {ws : List Wl} (lv : Leaves ws) {c : Nat} (h : Top ws c) : isPlan ws (plan ws (c + 1)) = true := by
  have pm := plan_perm ws (c + 1)
  have mem : ∀ x, x ∈ (plan ws (c + 1)).flatten ↔ x ∈ evy ws := fun x => by rw [pm.mem_iff, levs_mem, h.full lv]
  unfold isPlan
  rw [plan_rev, levs_ok h (c + 1) (Nat.le_refl _), Bool.and_true, Bool.and_eq_true]
  refine ⟨List.all_eq_true.mpr fun x hx => decide_eq_true (mem_evy.mp ((mem x).mp hx)), decide_eq_true ?_⟩
  exact sort_ris (pm.nodup_iff.mpr (levs_nd ws (c + 1))) (ris_evy ws) mem
theorem plan_few {ws : List Wl} (m : Nat) : (plan ws m).flatten.length ≤ ws.length := by
  rw [(plan_perm ws m).length_eq]
  exact pigeon_lt (levs_nd ws m) fun x hx => (mem_upto.mp ((levs_mem ws m x).mp hx)).1
/-- without its first lot it is none -/
theorem plan_drop {ws : List Wl} {c : Nat} (h : Top ws c) : isPlan ws ((plan ws (c + 1)).drop 1) = false := by
  obtain ⟨k, hk⟩ := h.1
  have no : k ∉ ((plan ws (c + 1)).drop 1).flatten := fun hm => by
    obtain ⟨l, hl, hx⟩ := List.mem_flatten.mp hm
    unfold plan at hl
    rw [List.range_succ_eq_map, List.map_cons, List.drop_succ_cons, List.drop_zero, List.map_map] at hl
    obtain ⟨i, hi, rfl⟩ := List.mem_map.mp hl
    have := (mem_level.mp hx).2.uniq hk
    have hi := List.mem_range.mp hi
    have e : c + 1 - 1 - (i + 1) = c := this
    omega
  unfold isPlan
  have : decide (sortN ((plan ws (c + 1)).drop 1).flatten = evy ws) = false := decide_eq_false fun e => by
    have : k ∈ evy ws := mem_evy.mpr (bk_lt hk.1)
    rw [← e, (sortN_perm _).mem_iff] at this
    exact no this
  rw [this, Bool.and_false]
  rfl
theorem plan_e1 {ws : List Wl} (h : ws ≠ []) : isPlan ws [[]] = false := by
  unfold isPlan
  have : decide (sortN [[]].flatten = evy ws) = false := decide_eq_false fun e => by
    have : (sortN ([[]] : List (List Nat)).flatten).length = (evy ws).length := by rw [e]
    rw [(sortN_perm _).length_eq] at this
    unfold evy at this
    rw [List.length_range] at this
    exact h (List.eq_nil_of_length_eq_zero this.symm)
  rw [this, Bool.and_false]
  rfl
theorem plan_e2 {ws : List Wl} : isPlan ws [[ws.length]] = false := by
  unfold isPlan
  have : ([[ws.length]].flatten.all fun x => decide (x < ws.length)) = false := by
    show (decide (ws.length < ws.length) && true) = false
    rw [decide_eq_false (Nat.lt_irrefl _)]
    rfl
  rw [this]
  rfl
/-! ### orders -/
theorem come_iff {ws : List Wl} {b b' : List Nat} (h : ∀ x, x ∈ b ↔ x ∈ b') (k : Nat) : k ∈ come ws b ↔ k ∈ come ws b' := by
  rw [mem_come, mem_come, h]
  exact ⟨fun ⟨a, r⟩ => ⟨a, r.mono fun x hx => (h x).mp hx⟩, fun ⟨a, r⟩ => ⟨a, r.mono fun x hx => (h x).mpr hx⟩⟩
theorem sing_flat : ∀ l : List Nat, (l.map fun k => [k]).flatten = l
  | [] => rfl
  | k :: l => by
    rw [List.map_cons, List.flatten_cons, sing_flat l]
    rfl
theorem sing_loop {ws : List Wl} : ∀ l : List Nat, l.Nodup → (∀ x ∈ l, x < ws.length) → loopOk ws [] (l.map fun k => [k]).reverse = grows ws l
  | [], _, _ => rfl
  | k :: l, nd, lt => by
    obtain ⟨n1, n2⟩ := List.nodup_cons.mp nd
    rw [List.map_cons, List.reverse_cons, loopOk_snoc, sing_loop l n2 fun x hx => lt x (List.mem_cons_of_mem _ hx), List.nil_append, ← List.map_reverse, sing_flat, Bool.and_comm]
    show (stepOk ws l.reverse [k] && grows ws l) = (rdy ws l k && grows ws l)
    congr 1
    unfold stepOk
    show (true && (decide (k ∈ come ws (sortN l.reverse)) && true)) = rdy ws l k
    rw [Bool.true_and, Bool.and_true]
    have e : k ∈ come ws (sortN l.reverse) ↔ k ∈ come ws l := come_iff (fun x => by rw [(sortN_perm _).mem_iff, List.mem_reverse]) k
    by_cases h : Rdy ws l k
    · rw [rdy_t h]
      exact decide_eq_true (e.mpr (mem_come.mpr ⟨⟨lt k (by simp), n1⟩, h⟩))
    · rw [rdy_f h]
      exact decide_eq_false fun z => h (mem_come.mp (e.mp z)).2
theorem sing_plan {ws : List Wl} {l : List Nat} (pm : l.Perm (List.range ws.length)) : isPlan ws (l.map fun k => [k]) = grows ws l := by
  have nd : l.Nodup := pm.nodup_iff.mpr List.nodup_range
  have lt : ∀ x ∈ l, x < ws.length := fun x hx => List.mem_range.mp (pm.mem_iff.mp hx)
  unfold isPlan
  rw [sing_flat, sing_loop l nd lt, sort_ris nd (ris_evy ws) fun x => pm.mem_iff, decide_eq_true rfl, Bool.and_true, List.all_eq_true.mpr fun x hx => decide_eq_true (lt x hx), Bool.true_and]
/-! ### days -/
open Classical in
noncomputable def dn (ws : List Wl) (m : Nat) : Nat := if h : ∃ d, Days ws m d then choose h else 0
theorem dn_eq {ws : List Wl} {m d : Nat} (h : Days ws m d) : dn ws m = d := by
  unfold dn
  rw [dif_pos ⟨d, h⟩]
  exact (Classical.choose_spec (⟨d, h⟩ : ∃ d, Days ws m d)).uniq h
theorem LS.wide {ws : List Wl} {m m' t : Nat} {L : List Nat} (hm : ws.length ≤ m') (h : LS ws m t L) : LS ws m' t L := by
  induction h with
  | zero => exact .zero
  | step _ hne hA hc _ ha ih =>
    refine .step ih hne hA hc ?_ ha
    have := pigeon_lt (WM.Ris.nodup hA) fun x hx => (mem_come.mp (hc x hx)).1.1
    omega
theorem Days.wide {ws : List Wl} {m m' d : Nat} (hm : ws.length ≤ m) (hm' : ws.length ≤ m') (h : Days ws m d) : Days ws m' d := ⟨LS.wide hm' h.1, fun j hj q => h.2 j hj (LS.wide hm q)⟩
theorem dn_min {ws : List Wl} {m d : Nat} (h : Days ws m d) : dn ws (min m ws.length) = d := by
  by_cases c : m ≤ ws.length
  · rw [Nat.min_eq_left c]
    exact dn_eq h
  · rw [Nat.min_eq_right (by omega)]
    exact dn_eq (Days.wide (by omega) (Nat.le_refl _) h)
theorem Most.uniq {ws : List Wl} {m m' : Nat} (a : Most ws m) (b : Most ws m') : m = m' := by
  rcases Nat.lt_trichotomy m m' with h | h | h
  · rcases b.2 with e | ⟨k, hk⟩
    · omega
    · have := a.1 k _ hk
      omega
  · exact h
  · rcases a.2 with e | ⟨k, hk⟩
    · omega
    · have := b.1 k _ hk
      omega
/-- the first that a test picks -/
theorem first_in {p : Nat → Bool} {n i : Nat} (hi : i < n) (hp : p i = true) (no : ∀ j, j < i → p j = false) : ∃ r, (List.range n).filter p = i :: r := by
  have e : List.range n = List.range i ++ (List.range (n - i)).map (i + ·) := by
    rw [← List.range_add, show i + (n - i) = n by omega]
  rw [e, List.filter_append, List.filter_eq_nil_iff.mpr fun j hj => by rw [no j (List.mem_range.mp hj)]; decide, List.nil_append]
  obtain ⟨k, hk⟩ : ∃ k, n - i = k + 1 := ⟨n - i - 1, by omega⟩
  rw [hk, List.range_succ_eq_map, List.map_cons, List.filter_cons, if_pos (by exact hp)]
  exact ⟨_, rfl⟩
theorem first_no {p : Nat → Bool} {n : Nat} (no : ∀ j, j < n → p j = false) : (List.range n).filter p = [] := List.filter_eq_nil_iff.mpr fun j hj => by rw [no j (List.mem_range.mp hj)]; decide
def firstV (l : List Nat) : V := match l with | [] => .non | i :: _ => iN (i + 1)
end WL


set_option Elab.async false
set_option linter.all false
set_option maxRecDepth 100000
set_option maxHeartbeats 4000000
/-! The law. -/
namespace WL
open PySem PySem.Spec PyProof.Rows L2 Evl WM
theorem Y.hide {H : Hp} {y r : Addr} {n : Nat} {ws : List Wl} {xs : List V} (h : Y H y n ws) (hr : H r = some (.lst xs)) : Y (hide H r) y n ws := by
  obtain ⟨wa, as, h1, h2, h3, h4⟩ := h.ex
  have no : ∀ ys, HO.lst xs ≠ .tup ys := fun ys z => by cases z
  exact ⟨wa, as, hide_tup hr no h1, hide_tup hr no h2, h3, fun i a w ha hw => hide_tup hr no (h4 i a w ha hw)⟩
section
variable {K : PySem.W.Frag} {σ : L2.St} {B H : Hp} {ta tb te tr tm : TE} {D : Ends} {tz : TS} {x : V} {r : Addr} {m : Nat} {t : TT}
theorem q_parT {i j : Nat} {c : Int} (h1 : Ev ta σ H x) (hr : Ev tr σ H (.ref r)) (hm : Ev tm σ H (iN m)) (row : Row K B H r) (m1 : 1 ≤ m) (m2 : m ≤ 1000) (k : ∀ v H2, v < m → Ex (hide H r) H2 → Row K B H2 r → tz D ((σ.set i (some x)).set j (some (.int (c + (v : Int))))) H2) :
    tSeq (tPar i j (tCons ta (tCons (tOp (rI0 fun i j => .int (i + j)) (tC (.int c)) (tCall (spTaken K) [] L2.E0 (tCons tr (tCons tm tNil)))) tNil))) tz D σ H :=
  h1 H (Ex.refl H) _ fun H1 e1 => r_take (hr.mono e1) (hm.mono e1) (row.ext e1) m1 m2 fun v H2 hv e2 row2 => ⟨c, (v : Int), rfl, rfl, _, _, rfl, k v H2 hv (hide_trans (hide_ex.trans e1) e2) row2⟩
theorem q_asgT {i : Nat} (hr : Ev tr σ H (.ref r)) (hm : Ev tm σ H (iN m)) (row : Row K B H r) (m1 : 1 ≤ m) (m2 : m ≤ 1000) (k : ∀ v H2, v < m → Ex (hide H r) H2 → Row K B H2 r → tz D (σ.set i (some (iN v))) H2) :
    tSeq (tAsg (tCall (spTaken K) [] L2.E0 (tCons tr (tCons tm tNil))) (gName i)) tz D σ H := r_take hr hm row m1 m2 k
theorem ev_isN (h : Ev ta σ H .non) : Ev (tOp (fun x y H Q => y = V.non ∧ Q (.bl (decide (x = V.non))) H) ta (tC .non)) σ H (.bl true) := ev_op (y := .non) h ev_c fun H1 _ Q q => ⟨rfl, q H1 (Ex.refl H1)⟩
theorem ev_min2 {a b : Nat} (ha : Ev ta σ H (iN a)) (hb : Ev tb σ H (iN b)) : Ev (tCB (fun xs H Q => ∃ i j, xs = [V.int i, V.int j] ∧ Q (.int (if j < i then j else i)) H) (tCons ta (tCons tb tNil))) σ H (iN (min a b)) := fun H1 e Q q =>
  ha H1 e _ fun H2 e2 => hb H2 (e.trans e2) _ fun H3 e3 => ⟨_, _, rfl, by
    rw [min_int]
    exact q H3 (e2.trans e3)⟩
theorem ev_maxV {p : Addr} {ns : List Int} {m : Int} (ha : Ev ta σ H (.ref p)) (hp : H p = some (.lst (ns.map V.int))) (hm : m ∈ ns) (hl : ∀ y ∈ ns, y ≤ m) : Ev (tCB (rMax K) (tCons ta tNil)) σ H (.int m) := fun H1 e Q q =>
  ha H1 e _ fun H2 e2 => ⟨p, ns, rfl, sq_of (e2 _ _ (e _ _ hp)), List.length_pos_of_mem hm, fun m' h1 h2 => by
    have : m' = m := Int.le_antisymm (hl m' h1) (h2 m hm)
    rw [this]
    exact q H2 e2⟩
theorem ev_late0 {y : Addr} {n : Nat} (ha : Ev ta σ H (.ref y)) (hy : Y H y n []) (yd : Yd n []) (lv : Leaves []) : Ev (tOp (rEqD K) (tCall spLate [] L2.E0 (tCons ta tNil)) (tTup tNil)) σ H (.bl true) := fun H8 e8 Q q =>
  ha H8 e8 _ fun H9 e9 => ⟨y, n, [], rfl, hy.ext (e8.trans e9), yd, fun nl => absurd lv nl, fun mm _ hmm p us H10 e10 hp hls => by
    have m0 : mm = 0 := Most.uniq hmm most_nil
    subst m0
    have us0 : us = [] := List.eq_nil_of_length_eq_zero (by rw [hls.len, plan_len])
    subst us0
    exact ⟨Nat.zero_le _, fun z nz => ⟨_, _, dp_T (l := []) ((Ex.new nz) _ _ hp), dp_T (l := []) upd_same, shaped_dT [], shaped_dT [], q _ ((e9.trans e10).trans (Ex.new nz))⟩⟩⟩
theorem ev_cTL {sp : Sp} {ls : List (List Nat)} {z : V} (h1 : Ev ta σ H x) (h2 : EvLL te σ H ls) (hs : ∀ p us H1, Ex H H1 → H1 p = some (.tup us) → Lots H1 us ls → ∀ Q : VK, RetV z H1 Q → sp [x, .ref p] H1 Q L2.E0) : Ev (tCall sp [] L2.E0 (tCons ta (tCons (tCB (rTupOf K) (tCons te tNil)) tNil))) σ H z := fun H1 e Q q =>
  h1 H1 e _ fun H2 e2 => h2 H2 (e.trans e2) _ fun p us H3 _ e3 hp hls => ⟨p, us, rfl, Or.inl ⟨sq_of hp, fun l nl => hs l us _ (((e.trans e2).trans e3).trans (Ex.new nl)) upd_same (hls.ext (Ex.new nl)) Q fun H5 e5 => q H5 (((e2.trans e3).trans (Ex.new nl)).trans e5)⟩⟩
/-- for over range(m, 0, -1) -/
theorem q_forR3 {tu : TS} {M : Nat} {ta : TA} {j : Nat} (h : EvA ta σ H [.int M, .int 0, .int (-1)]) (hz : M ≤ 1000) (Pv : Nat → L2.St → Hp → Prop) (h0 : ∀ H1, Ex H H1 → Pv 0 σ H1)
    (hs : ∀ (i : Nat) σ' H', i < M → Pv i σ' H' → tu { D with nx := Pv (i + 1), ct := Pv (i + 1), bk := tz D } (σ'.set j (some (iN (M - i)))) H') (hd : ∀ σ' H', Pv M σ' H' → tz D σ' H') : tSeq (tFor (iRng3 ta) (gName j) tu) tz D σ H :=
  h H (Ex.refl H) _ fun H1 e => ⟨(M : Int), 0, -1, ((M : Int) - 0).toNat, rfl, RgC.neg (by omega) (by omega) (by decide) (by decide), for_rangeC Pv (h0 H1 e) (fun i σ' H' hi p => by
    have e0 : (M : Int) + (i : Nat) * (-1 : Int) = ((M - i : Nat) : Int) := by omega
    show tu { D with nx := Pv (i + 1), ct := Pv (i + 1), bk := tz D } (σ'.set j (some (.int ((M : Int) + (i : Nat) * (-1 : Int))))) H'
    rw [e0]
    exact hs i σ' H' (by omega) p) (fun σ' H' p => hd σ' H' (by rw [show ((M : Int) - 0).toNat = M by omega] at p; exact p))⟩
/-- over range(n) | range(1, n + 1): numbers -/
theorem el_R1 {ta : TA} {j n : Nat} {vs : List Nat} (f : Nat → Bool) (g : Nat → Nat) (h : EvA ta σ H [iN n]) (hn : n ≤ 1000) (hw : ∀ x, wipe ((wipe σ vs).set j (some x)) vs = wipe σ vs)
    (ht : ∀ i, i < n → ∀ H1, Ex H H1 → EvT t ((wipe σ vs).set j (some (iN i))) H1 (f i)) (he : ∀ i, i < n → f i = true → ∀ H1, Ex H H1 → Ev te ((wipe σ vs).set j (some (iN i))) H1 (iN (g i))) :
    EvL (tLc (iRng1 ta) (gName j) t te vs) σ H (LN (((List.range n).filter f).map g)) :=
  el_is (el_lcR1 (n := (n : Int)) f (fun i => iN (g i)) h ⟨by omega, by omega⟩ hw (fun i H1 e1 hi => ht i (by omega) H1 e1) (fun i H1 e1 hi hf => he i (by omega) hf H1 e1)) (LN_map g _)
theorem el_R2 {ta : TA} {j n : Nat} {vs : List Nat} (g : Nat → Nat) (h : EvA ta σ H [.int 1, .int ((n : Int) + 1)]) (hn : n ≤ 1000) (hw : ∀ x, wipe ((wipe σ vs).set j (some x)) vs = wipe σ vs)
    (he : ∀ i, i < n → ∀ H1, Ex H H1 → Ev te ((wipe σ vs).set j (some (iN (i + 1)))) H1 (iN (g i))) :
    EvL (tLc (iRng2 ta) (gName j) tYes te vs) σ H (LN ((List.range n).map g)) := fun H0 e Q q => h H0 e _ fun H1 e1 => ⟨1, (n : Int) + 1, rfl, ⟨by omega, by omega, by omega, by omega⟩, fun Dl hD =>
  lc_range (lo := 1) (n := ((n : Int) + 1 - 1).toNat) (Cw H1 (fun _ => true) (fun i => iN (g i)) Dl) ⟨hD, Ex.new hD, upd_same⟩ (fun i H' hi p => by
    have hi : i < n := by omega
    have e0 : (1 : Int) + (i : Int) = ((i + 1 : Nat) : Int) := by omega
    show wipe ((wipe σ vs).set j (some (.int ((1 : Int) + (i : Int))))) vs = wipe σ vs ∧ tYes ((wipe σ vs).set j (some (.int ((1 : Int) + (i : Int))))) H' _
    rw [e0]
    exact ⟨hw _, cw_turn p (by omega) et_yes fun _ => he i hi H1 (e.trans e1)⟩)
    (fun H' p => by
      obtain ⟨p1, p2, p3⟩ := p
      refine q Dl H' (fresh_back e1 p1) (e1.trans p2) ?_
      rw [p3]
      unfold given
      rw [show ((n : Int) + 1 - 1).toNat = n by omega, filter_yes, LN_map])⟩
end
/-- tuples of numbers alike, tuples of tuples alike -/
theorem al_nums {H : Hp} {a b : Addr} {l : List Nat} (ha : H a = some (.tup (LN l))) (hb : H b = some (.tup (LN l))) (hl : l.length ≤ 1000) {Q : VK} (q : RetV (.bl true) H Q) : spAl 2 [.ref a, .ref b] H Q L2.E0 :=
  Or.inr (Or.inr ⟨a, b, LN l, LN l, rfl, ha, hb, rfl, by rw [LN_len]; exact hl, fun i x y hx hy H1 e1 Q' q' => by
    rw [hx] at hy
    cases hy
    obtain ⟨n, _, rfl⟩ := get_LN hx
    exact Or.inl ⟨(n : Int), rfl, q'⟩, q⟩)
theorem al_lots {H : Hp} {a b : Addr} {us vs : List V} {ls : List (List Nat)} (ha : H a = some (.tup us)) (hb : H b = some (.tup vs)) (hu : Lots H us ls) (hv : Lots H vs ls) (hl : ls.length ≤ 1000) (hl2 : ∀ l ∈ ls, l.length ≤ 1000) {Q : VK} (q : RetV (.bl true) H Q) : spAl 3 [.ref a, .ref b] H Q L2.E0 :=
  Or.inr (Or.inr ⟨a, b, us, vs, rfl, ha, hb, by rw [hu.len, hv.len], by rw [hv.len]; exact hl, fun i x y hx hy H1 e1 Q' q' => by
    obtain ⟨c, l, rfl, hl', hc⟩ := hu.get hx
    obtain ⟨d, l', rfl, hl'', hd⟩ := hv.get hy
    rw [hl'] at hl''
    cases hl''
    exact al_nums (e1 _ _ hc) (e1 _ _ hd) (hl2 l (List.mem_of_getElem? hl')) q', q⟩)
theorem al_first {H : Hp} {Q : VK} (l : List Nat) (q : RetV (.bl true) H Q) : spAl 3 [firstV l, firstV l] H Q L2.E0 := by
  cases l with
  | nil => exact Or.inr (Or.inl ⟨rfl, q⟩)
  | cons i l => exact Or.inl ⟨_, rfl, q⟩
theorem Lots.tail {H : Hp} {us : List V} {ls : List (List Nat)} (h : Lots H us ls) : Lots H (us.drop 1) (ls.drop 1) := by
  cases h with
  | nil => exact .nil
  | cons h t => exact t
theorem cut_tailV (us : List V) : cutV us (some 1) none = us.drop 1 := by
  unfold cutV
  rw [show (1 : Int) = ((1 : Nat) : Int) from rfl, HT.sIx_nat, HT.sIx_none, List.take_of_length_le (by rw [List.length_drop]; exact Nat.le_refl _)]
  cases us with
  | nil => rfl
  | cons u us => rw [Nat.min_eq_left (by simp)]
/- 0 _law_script, 1 _law_row, 2 _law_yard_here, 3 _law_many, 4 _law_masons, 5 _law_due, 6 _law_one, 7 _law_days_here, 8 _law_good, 9 _law_told, 10 _law_backs, 11 _law_number, 12 _law_plan, 13 _law_day, 14 _law_order -/
theorem sc_law : FnScope ["_law_script", "_law_row", "_law_yard_here", "_law_many", "_law_masons", "_law_due", "_law_one", "_law_days_here", "_law_good", "_law_told", "_law_backs", "_law_number", "_law_plan", "_law_day", "_law_order"] ["_law_script"] (tScope 47) := ⟨rfl, rfl, rfl, by decide +kernel, rfl, by decide +kernel, by decide +kernel⟩
def spLaw (K : PySem.W.Frag) : Sp := fun vs H Q _ => ∃ (a : Addr) (ns : List Int), vs = [.ref a] ∧ SqL K H a (ns.map V.int) ∧ ∀ H', Q (.bl true) H'
section
variable {P : Program} {w : World} {K : PySem.W.Frag} {mg : Str → Option Value} {base : Heap}
theorem fcal {x : Str} {i k : Nat} {N ps : List Str} {sp : Sp} {f : Addr} {fd : FuncData} (F : FunD K x x (tArgs i) (tBody i) (tScope i) [] [] f fd) (S : FnScope N ps (tScope i)) (len : ∀ vs H Q E, sp vs H Q E → vs.length = ps.length)
    (hbody : ∀ (f : Addr) (cdv : Value) (A : Around) (outer : List Env) (s : Shared) (H : Hp) (vs : List V) (Q : VK) (E : XK), Room k (A.deeper (envOfC x (tScope i) s.heap.objs.size f cdv)) → sp vs H Q E →
      ∃ t, PSs (cxOf L2.CX0 P w K mg base N x (tScope i) f cdv A outer s H E).nox (tBody i) t ∧ t { nx := fun _ H' => Q .non H', rt := Q } (start N vs) H) : FnOk P w K mg base L2.CX0 (k + 1) f fd ps sp :=
  F.ok S len fun cdv A outer s H vs Q E hr h => by
    obtain ⟨t, h1, h2⟩ := hbody f cdv A outer s H vs Q E hr h
    exact ⟨t, h1.nox, h2⟩
theorem ok_law (g_law_yard : Cal P w K mg base 2 "_law_yard" (spYard K)) (g_law_taken : Cal P w K mg base 1 "_law_taken" (spTaken K)) (g_law_leaves : Cal P w K mg base 4 "_law_leaves" spLeaves) (g_fewest_days : Cal P w K mg base 5 "fewest_days" spFewest) (g_late_plan : Cal P w K mg base 5 "late_plan" spLate)
    (g_masons_for : Cal P w K mg base 6 "masons_for" spMasons) (g_law_days : Cal P w K mg base 3 "_law_days" spDays) (g_law_alike : Cal P w K mg base 3 "_law_alike" (spAl 3)) (g_least_back : Cal P w K mg base 5 "least_back" spBackOf) (g_is_plan : Cal P w K mg base 5 "is_plan" spPlan) (g_law_shuffled : Cal P w K mg base 2 "_law_shuffled" (spShuf K))
    (g_law_is : Cal P w K mg base 1 "_law_is" spIs) (g_law_grows : Cal P w K mg base 3 "_law_grows" spGrows) (g_law_pick : Cal P w K mg base 2 "_law_pick" (spPick K)) (T : Tx K mg) {fL : Addr} {fdL : FuncData} (F : FunD K "law" "law" (tArgs 47) (tBody 47) (tScope 47) [] [] fL fdL) : FnOk P w K mg base L2.CX0 7 fL fdL ["_law_script"] (spLaw K) := by
  refine fcal F sc_law (fun vs H Q E h => ?_) (fun f cdv A outer s H vs Q E hr h => ?_)
  · obtain ⟨a, ns, rfl, _⟩ := h
    rfl
  · obtain ⟨a, ns, rfl, hS, k⟩ := h
    have hr64 := hr.units
    refine ⟨_, (pss_cons (ps_set (i := 1) sc_law.nd rfl (by first | exact Or.inl rfl | exact Or.inr rfl) (pe_lst (pa_cons (pv 0) (pa_cons pe_int (pa_cons pe_int (pa_cons pe_int pa_nil))))))
      (pss_cons (ps_set (i := 2) sc_law.nd rfl (by first | exact Or.inl rfl | exact Or.inr rfl) (pcall g_law_yard hr (by decide) rfl (pa_cons (pv 1) (pa_cons pe_int (pa_cons pe_int (pa_cons pe_int pa_nil))))))
      (pss_cons (ps_par (i := 3) (j := 4) rfl sc_law.nd rfl rfl (by decide) rfl rfl (pa_cons (pe_callB (k_len (K := K) rfl) (by rfl) T.b_len (by decide +kernel) (pa_cons (pe_ix (k_ixT (K := K) rfl) (pv 2) pe_int (fun _ _ => rfl)) pa_nil)) (pa_cons (pe_op op_add pe_int (pcall g_law_taken hr (by decide) rfl (pa_cons (pv 1) (pa_cons pe_int pa_nil)))) pa_nil)) (by rfl))
      (pss_cons (ps_if (pt_not (pt_val (pcall g_law_leaves hr (by decide) rfl (pa_cons (pv 2) pa_nil)))) (pss_one (ps_ret (pe_and (pe_cmpR op_isN (pcall g_fewest_days hr (by decide) rfl (pa_cons (pv 2) (pa_cons (pv 4) pa_nil))) pe_non (nomark _)) (pe_and (pe_cmpR op_isN (pcall g_late_plan hr (by decide) rfl (pa_cons (pv 2) pa_nil)) pe_non (nomark _)) (pe_one (pe_cmpR op_isN (pcall g_masons_for hr (by decide) rfl (pa_cons (pv 2) (pa_cons pe_int pa_nil))) pe_non (nomark _))))))) pss_nil)
      (pss_cons (ps_set (i := 5) sc_law.nd rfl (by first | exact Or.inl rfl | exact Or.inr rfl) (pe_lc (own := [("_law_one", 6)]) (g := gName 6) rfl sc_law.nd (pi_range2 (by rfl) T.b_range (pa_cons pe_int (pa_cons (pe_op op_add (pv 3) pe_int) pa_nil))) (blkOk_by (by kernel_rfl)) (fun _ _ _ _ _ => pg_name (i := 6) sc_law.nd rfl (by first | exact Or.inl rfl | exact Or.inr rfl)) (fun _ _ _ _ _ => pts_nil) (fun _ _ _ _ _ => (pcall g_law_days hr (by decide) rfl (pa_cons (pv 2) (pa_cons (pv 6) pa_nil))))))
      (pss_cons (ps_if (pt_cmpR op_eq (pv 3) pe_int (nomark _)) (pss_one (ps_ret (pe_and (pe_cmpR op_eq (pcall g_fewest_days hr (by decide) rfl (pa_cons (pv 2) (pa_cons (pv 4) pa_nil))) pe_int (nomark _)) (pe_and (pe_cmpR (k_eqD (K := K) rfl hr64) (pcall g_late_plan hr (by decide) rfl (pa_cons (pv 2) pa_nil)) (pe_tup pa_nil) (nomark _)) (pe_one (pe_cmpR op_eq (pcall g_masons_for hr (by decide) rfl (pa_cons (pv 2) (pa_cons pe_int pa_nil))) pe_int (nomark _))))))) pss_nil)
      (pss_cons (ps_if (pt_not (pt_val (pcall g_law_alike hr (by decide) rfl (pa_cons (pcall g_fewest_days hr (by decide) rfl (pa_cons (pv 2) (pa_cons (pv 4) pa_nil))) (pa_cons (pe_ix (k_ixL (K := K) rfl) (pv 5) (pe_op op_sub (pe_callB (call_min2 rfl) (by rfl) T.b_min (by decide +kernel) (pa_cons (pv 4) (pa_cons (pv 3) pa_nil))) pe_int) (fun _ _ => rfl)) pa_nil))))) (pss_one (ps_ret pe_bl)) pss_nil)
      (pss_cons (ps_set (i := 7) sc_law.nd rfl (by first | exact Or.inl rfl | exact Or.inr rfl) (pcall g_law_taken hr (by decide) rfl (pa_cons (pv 1) (pa_cons (pe_op op_add (pv 3) pe_int) pa_nil))))
      (pss_cons (ps_setLc (i := 8) (own := [("_law_one", 6)]) (g := gName 6) rfl sc_law.nd rfl rfl (sw_true rfl rfl rfl (by decide +kernel)) (pi_range1 (by rfl) T.b_range (pa_cons (pv 3) pa_nil)) (blkOk_by (by kernel_rfl)) (fun _ _ _ _ _ => pg_name (i := 6) sc_law.nd rfl (by first | exact Or.inl rfl | exact Or.inr rfl)) (fun _ _ _ _ _ => pts_one (pt_cmpR op_le (pe_ix (k_ixL (K := K) rfl) (pv 5) (pv 6) (fun _ _ => rfl)) (pv 7) (nomark _))) (fun _ _ _ _ _ => (pe_op op_add (pv 6) pe_int)))
      (pss_cons (ps_if (pt_not (pt_val (pcall g_law_alike hr (by decide) rfl (pa_cons (pcall g_masons_for hr (by decide) rfl (pa_cons (pv 2) (pa_cons (pv 7) pa_nil))) (pa_cons (pe_ifExp (pt_cmpR (k_neD (K := K) rfl hr64) (pv 8) (pe_lst pa_nil) (nomark _)) (pe_ix (k_ixL (K := K) rfl) (pv 8) pe_int (fun _ _ => rfl)) pe_non) pa_nil))))) (pss_one (ps_ret pe_bl)) pss_nil)
      (pss_cons (ps_set (i := 9) sc_law.nd rfl (by first | exact Or.inl rfl | exact Or.inr rfl) (pcall g_late_plan hr (by decide) rfl (pa_cons (pv 2) pa_nil)))
      (pss_cons (ps_set (i := 10) sc_law.nd rfl (by first | exact Or.inl rfl | exact Or.inr rfl) (pe_lc (own := [("_law_number", 11)]) (g := gName 11) rfl sc_law.nd (pi_range1 (by rfl) T.b_range (pa_cons (pv 3) pa_nil)) (blkOk_by (by kernel_rfl)) (fun _ _ _ _ _ => pg_name (i := 11) sc_law.nd rfl (by first | exact Or.inl rfl | exact Or.inr rfl)) (fun _ _ _ _ _ => pts_nil) (fun _ _ _ _ _ => (pcall g_least_back hr (by decide) rfl (pa_cons (pv 2) (pa_cons (pv 11) pa_nil))))))
      (pss_cons (ps_set (i := 12) sc_law.nd rfl (by first | exact Or.inl rfl | exact Or.inr rfl) (pe_lst pa_nil))
      (pss_cons (ps_for PassesOwn.never rfl (pi_range3 (by rfl) T.b_range (pa_cons (pe_callB (k_max (K := K) rfl rfl) (by rfl) T.b_max (by decide +kernel) (pa_cons (pv 10) pa_nil)) (pa_cons pe_int (pa_cons (pe_un un_neg pe_int) pa_nil)))) (pg_name (i := 13) sc_law.nd rfl (by first | exact Or.inl rfl | exact Or.inr rfl))
        (pss_one (ps_expr (pe_bm PySem.F.plainAttrs_list PySem.F.slot_list_append PySem.F.type_list_append mt_append (pv 12) (pa_cons (pe_callTy (k_tupOf (K := K) rfl) (by rfl) T.b_tuple (by decide +kernel) (pa_cons (pe_lc (own := [("_law_number", 11)]) (g := gName 11) rfl sc_law.nd (pi_range1 (by rfl) T.b_range (pa_cons (pv 3) pa_nil)) (blkOk_by (by kernel_rfl)) (fun _ _ _ _ _ => pg_name (i := 11) sc_law.nd rfl (by first | exact Or.inl rfl | exact Or.inr rfl)) (fun _ _ _ _ _ => pts_one (pt_cmpR op_eq (pe_ix (k_ixL (K := K) rfl) (pv 10) (pv 11) (fun _ _ => rfl)) (pv 13) (nomark _))) (fun _ _ _ _ _ => (pv 11))) pa_nil)) pa_nil)))))
      (pss_cons (ps_if (PW.pt (pw_or (pt_not (pt_val (pcall g_law_alike hr (by decide) rfl (pa_cons (pv 9) (pa_cons (pe_callTy (k_tupOf (K := K) rfl) (by rfl) T.b_tuple (by decide +kernel) (pa_cons (pv 12) pa_nil)) pa_nil))))) (pw_or (pt_cmpR op_isnot_bl (pcall g_is_plan hr (by decide) rfl (pa_cons (pv 2) (pa_cons (pv 9) pa_nil))) pe_bl (nomark _)) (pw_or1 (pt_cmpR op_ne (pe_callB (k_len (K := K) rfl) (by rfl) T.b_len (by decide +kernel) (pa_cons (pv 9) pa_nil)) (pe_ix (k_ixL (K := K) rfl) (pv 5) (pe_un un_neg pe_int) (fun _ _ => rfl)) (nomark _)))))) (pss_one (ps_ret pe_bl)) pss_nil)
      (pss_cons (ps_set (i := 14) sc_law.nd rfl (by first | exact Or.inl rfl | exact Or.inr rfl) (pcall g_law_shuffled hr (by decide) rfl (pa_cons (pv 1) (pa_cons (pv 3) pa_nil))))
      (pss_cons (ps_if (pt_not (pt_val (pcall g_law_is hr (by decide) rfl (pa_cons (pcall g_is_plan hr (by decide) rfl (pa_cons (pv 2) (pa_cons (pe_callTy (k_tupOf (K := K) rfl) (by rfl) T.b_tuple (by decide +kernel) (pa_cons (pe_lc (own := [("_law_number", 11)]) (g := gName 11) rfl sc_law.nd (k_pt (K := K) rfl (pv 14)) (blkOk_by (by kernel_rfl)) (fun _ _ _ _ _ => pg_name (i := 11) sc_law.nd rfl (by first | exact Or.inl rfl | exact Or.inr rfl)) (fun _ _ _ _ _ => pts_nil) (fun _ _ _ _ _ => (pe_tup (pa_cons (pv 11) pa_nil)))) pa_nil)) pa_nil))) (pa_cons (pcall g_law_grows hr (by decide) rfl (pa_cons (pv 2) (pa_cons (pv 14) pa_nil))) pa_nil))))) (pss_one (ps_ret pe_bl)) pss_nil)
      (pss_cons (ps_if (pt_not (pt_cmpR op_is_bl (pcall g_is_plan hr (by decide) rfl (pa_cons (pv 2) (pa_cons (pe_slice (k_sl (K := K) rfl) (pv 9) (po_some pe_int) po_none) pa_nil))) pe_bl (nomark _))) (pss_one (ps_ret pe_bl)) pss_nil)
      (pss_one (ps_ret (pe_cmpR op_is_bl (pcall g_is_plan hr (by decide) rfl (pa_cons (pv 2) (pa_cons (pcall g_law_pick hr (by decide) rfl (pa_cons (pv 1) (pa_cons (pe_lst (pa_cons pe_non (pa_cons (pe_lst pa_nil) (pa_cons pe_int (pa_cons (pe_tup (pa_cons (pe_tup pa_nil) pa_nil)) (pa_cons (pe_tup (pa_cons pe_non pa_nil)) (pa_cons (pe_tup (pa_cons (pe_tup (pa_cons (pv 3) pa_nil)) pa_nil)) pa_nil))))))) pa_nil))) pa_nil))) pe_bl (nomark _)))))))))))))))))))))), ?_⟩
    refine q_asgL (el_lst (ea_cons (ev_var rfl) (ea_cons ev_c (ea_cons ev_c (ea_cons ev_c ea_nil)))) (Nat.le_of_ble_eq_true rfl)) fun r H1 nr e1 hrw => ?_
    have row1 : Row K H H1 r := ⟨nr, e1, a, ns, 0, 4729, 0, hrw, hS, by decide, by decide, by decide⟩
    refine q_call (ea_cons (ev_var rfl) (ea_cons ev_c (ea_cons ev_c (ea_cons ev_c ea_nil)))) fun H2 e2 => ⟨H, r, rfl, row1.ext e2, fun y n ws H3 e3 row3 hy ney nyB yd n5 => ?_⟩
    have h6 := yd.few
    have hlen : ∀ {σ : L2.St} {H : Hp}, Y H y n ws → σ[2]? = some (some (.ref y)) → Ev (tCB (rLenS K) (tCons (tOp (rIxT K) (tVar 2) (tC (.int 1))) tNil)) σ H (iN ws.length) := fun h hs => ev_ylen h (ev_var hs) ev_c
    refine q_parT (r := r) (m := 4) (hlen hy rfl) (ev_var rfl) ev_c row3 (by decide) (by decide) fun v0 H4 hv0 e4 row4 => ?_
    obtain ⟨m, hm⟩ : ∃ m, m = 1 + v0 := ⟨_, rfl⟩
    have em : (1 : Int) + (v0 : Int) = (m : Int) := by omega
    have m1 : 1 ≤ m := by omega
    have m4 : m ≤ 4 := by omega
    rw [em]
    have hy4 : Y H4 y n ws := by
      obtain ⟨xs, hx⟩ := row3.some
      exact (hy.hide hx).ext e4
    clear e4 hy em hm
    -- what the calls come to
    have cFew : ∀ {σ : L2.St} {H : Hp}, Y H y n ws → σ[2]? = some (some (.ref y)) → σ[4]? = some (some (iN m)) → (¬ Leaves ws → Ev (tCall spFewest [] L2.E0 (tCons (tVar 2) (tCons (tVar 4) tNil))) σ H .non) ∧ (Leaves ws → Ev (tCall spFewest [] L2.E0 (tCons (tVar 2) (tCons (tVar 4) tNil))) σ H (iN (dn ws (min m ws.length)))) := fun h h2 h4 =>
      ⟨fun nl => ev_c1 (ea_cons (ev_var h2) (ea_cons (ev_var h4) ea_nil)) fun H1 e1 Q q => ⟨y, n, ws, m, rfl, h.ext e1, yd, m1, by omega, fun _ => q, fun d lv => absurd lv nl⟩,
       fun lv => ev_c1 (ea_cons (ev_var h2) (ea_cons (ev_var h4) ea_nil)) fun H1 e1 Q q => ⟨y, n, ws, m, rfl, h.ext e1, yd, m1, by omega, fun nl => absurd lv nl, fun d _ hd => by rw [← dn_min (hd.days lv m1)]; exact q⟩⟩
    refine q_when (et_not (et_B (ev_c1 (sp := spLeaves) (z := .bl (growth ws (evy ws))) (ea_cons (ev_var rfl) ea_nil) fun H5 e5 Q q => ⟨y, n, ws, rfl, hy4.ext e5, yd, q⟩))) (fun hb H5 e5 => ?_) (fun hb H5 e5 => ?_)
    · -- walls that none comes to
      have nl : ¬ Leaves ws := fun lv => by
        rw [growth_evy.mpr lv] at hb
        cases hb
      have hy5 := hy4.ext e5
      refine s_ret (v := .bl true) (ev_is (ev_andV (a := true) (b := true) (ev_isN ((cFew hy5 rfl rfl).1 nl)) fun _ => ev_is (ev_andV (a := true) (b := true) (ev_isN (ev_c1 (sp := spLate) (ea_cons (ev_var rfl) ea_nil) fun H6 e6 Q q => ⟨y, n, ws, rfl, hy5.ext e6, yd, fun _ => q, fun m lv => absurd lv nl⟩)) fun _ =>
        ev_isN (ev_c1 (sp := spMasons) (ea_cons (ev_var rfl) (ea_cons ev_c ea_nil)) fun H6 e6 Q q => ⟨y, n, ws, 12, rfl, hy5.ext e6, yd, by decide, fun z => absurd (by subst z; exact fun k hk => absurd hk (Nat.not_lt_zero _)) nl, fun _ => q, fun i ds lv => absurd lv nl, fun ds lv => absurd lv nl⟩)) rfl) rfl) fun H6 _ => k H6
    have lv : Leaves ws := growth_evy.mp (by simpa using hb)
    have hy5 := hy4.ext e5
    have row5 := row4.ext e5
    -- due
    refine q_asgL (el_R2 (n := ws.length) (fun i => dn ws (i + 1)) (ea_cons ev_c (ea_cons (ev_op (ev_var rfl) ev_c rv_I0) ea_nil)) (by omega) (fun _ => rfl) (fun i hi H6 e6 => ev_c1 (sp := spDays) (ea_cons (ev_var rfl) (ea_cons (ev_var rfl) ea_nil)) fun H7 e7 Q q => ⟨y, n, ws, i + 1, rfl, (hy5.ext e6).ext e7, yd, lv, by omega, by omega, fun d hd => by rw [← dn_eq hd]; exact q⟩)) fun du H6 ndu e6 hdu => ?_
    have hy6 := hy5.ext e6
    have row6 := row5.ext e6
    have dur : du ≠ r := row5.ne ndu
    refine q_when (et_test (ev_op (ev_var rfl) ev_c (rv_eq rfl))) (fun hb H7 e7 => ?_) (fun hb H7 e7 => ?_)
    · -- no walls
      have hw0 : ws = [] := by
        have h : iN ws.length = V.int 0 := of_decide_eq_true hb
        injection h with h
        exact List.eq_nil_of_length_eq_zero (by omega)
      subst hw0
      have hy7 := hy6.ext e7
      have d0 : ∀ m d, DaysP [] m d → d = 0 := fun m d h => by
        by_cases c : d = 0
        · exact c
        · exact absurd (PG.zero (ws := []) (m := m)) (h.2 0 (by omega))
      have few := (cFew (σ := [some (.ref a), some (.ref r), some (.ref y), some (iN ([] : List Wl).length), some (iN m), some (.ref du), none, none, none, none, none, none, none, none, none]) hy7 rfl rfl).2 lv
      have dn0 : dn [] (min m ([] : List Wl).length) = 0 := by
        refine dn_eq ?_
        exact ⟨LS.zero, fun j hj => absurd hj (Nat.not_lt_zero _)⟩
      rw [dn0] at few
      refine s_ret (v := .bl true) (ev_is (ev_andV (a := true) (b := true) (ev_is (ev_op few ev_c (rv_eq rfl)) rfl) fun _ => ev_is (ev_andV (a := true) (b := true) (ev_late0 (ev_var rfl) hy7 yd lv) fun _ =>
        ev_is (ev_op (ev_c1 (sp := spMasons) (z := iN 1) (ea_cons (ev_var rfl) (ea_cons ev_c ea_nil)) fun H8 e8 Q q => ⟨y, n, [], 0, rfl, hy7.ext e8, yd, by decide, fun _ => q, fun nl => absurd lv nl, fun i ds _ h => absurd rfl h, fun ds _ h => absurd rfl h⟩) ev_c (rv_eq rfl)) rfl) rfl) rfl) fun H8 _ => k H8
    have hne : ws ≠ [] := fun z => by
      subst z
      exact absurd hb (by decide)
    have wpos : 1 ≤ ws.length := List.length_pos_iff.mpr hne
    obtain ⟨c, top⟩ := Top.ex lv hne
    have c6 : c + 1 ≤ 9 := by
      obtain ⟨kk, hkk⟩ := top.1
      obtain ⟨wl, rr, hw, hrr, p⟩ := hkk.1
      obtain ⟨e, he, me⟩ := MinD.of p
      have : ¬ e < c := fun z => hkk.2 e z ⟨wl, rr, hw, hrr, me.1⟩
      have := me.lt yd.good
      have := yd.rooms
      omega
    have hy7 := hy6.ext e7
    have row7 := row6.ext e7
    have hdu7 := e7 _ _ hdu
    have dueAt : ∀ i, i < ws.length → (LN ((List.range ws.length).map fun i => dn ws (i + 1)))[i]? = some (iN (dn ws (i + 1))) := fun i hi => by
      rw [LN_get]
      rw [List.getElem?_map, List.getElem?_range hi]
      rfl
    -- the fewest days
    refine q_when (b := false) (et_is (et_not (et_B (ev_c1 (sp := spAl 3) (z := .bl true) (vs := [iN (dn ws (min m ws.length)), iN (dn ws (min m ws.length))]) (ea_cons ((cFew hy7 rfl rfl).2 lv) (ea_cons (ev_ixL (i := ((min m ws.length - 1 : Nat) : Int)) (ev_var rfl) (ev_is (ev_op (ev_min2 (ev_var rfl) (ev_var rfl)) ev_c rv_I0) (by show V.int _ = V.int _; congr 1; omega)) hdu7 (atI_nat ?_)) ea_nil)) fun H8 e8 Q q => Or.inl ⟨_, rfl, q⟩))) rfl) (fun h => absurd h (by decide)) fun _ H8 e8 => ?_
    · have := dueAt (min m ws.length - 1) (by omega)
      rw [show min m ws.length - 1 + 1 = min m ws.length by omega] at this
      exact this
    -- the masons for so many days
    refine q_asgT (r := r) (m := ws.length + 1) (ev_var rfl) (ev_is (ev_op (ev_var rfl) ev_c rv_I0) rfl) (row7.ext e8) (by omega) (by omega) fun dh H9 hdh e9 row9 => ?_
    have hy9 : Y H9 y n ws := by
      obtain ⟨xs, hx⟩ := (row7.ext e8).some
      exact ((hy7.ext e8).hide hx).ext e9
    have hdu9 : H9 du = some (.lst (LN ((List.range ws.length).map fun i => dn ws (i + 1)))) := e9 _ _ (hide_get (e8 _ _ hdu7) dur)
    clear e9 e8 hdu7 hy7 row7
    refine q_asgL (el_R1 (n := ws.length) (fun i => decide (dn ws (i + 1) ≤ dh)) (fun i => i + 1) (ea_cons (ev_var rfl) ea_nil) (by omega) (fun _ => rfl) (fun i hi H10 e10 => et_is (et_test (ev_op (ev_ixL (ev_var rfl) (ev_var rfl) (e10 _ _ hdu9) (atI_nat (dueAt i hi))) (ev_var rfl) rv_I0)) (decide_eq_decide.mpr ⟨fun h => by omega, fun h => by omega⟩)) (fun i hi _ H10 e10 => ev_is (ev_op (ev_var rfl) ev_c rv_I0) rfl)) fun gd H10 ngd e10 hgd => ?_
    have hy10 := hy9.ext e10
    have row10 := row9.ext e10
    have hdu10 := e10 _ _ hdu9
    have daysOf : ∀ {j d : Nat}, DaysP ws (j + 1) d → dn ws (j + 1) = d := fun h => dn_eq (h.days lv (by omega))
    refine q_when (b := false) (et_is (et_not (et_B (ev_c1 (sp := spAl 3) (z := .bl true) (vs := [firstV ((List.range ws.length).filter fun i => decide (dn ws (i + 1) ≤ dh)), firstV ((List.range ws.length).filter fun i => decide (dn ws (i + 1) ≤ dh))])
      (ea_cons (ev_c1 (sp := spMasons) (ea_cons (ev_var rfl) (ea_cons (ev_var rfl) ea_nil)) fun H11 e11 Q q => ⟨y, n, ws, dh, rfl, hy10.ext e11, yd, by omega, fun h => absurd h hne, fun nl => absurd lv nl, fun i ds _ _ hi hds hle hno => ?_, fun ds _ _ hds => ?_⟩)
        (ea_cons (ev_if (b := !decide (((List.range ws.length).filter fun i => decide (dn ws (i + 1) ≤ dh)).map (fun i => i + 1) = [])) (et_test (ev_neVL (ev_var rfl) hgd el_none)) (fun hb2 => ?_) (fun hb2 => ?_)) ea_nil)) fun H11 e11 Q q => al_first _ q))) rfl) (fun h => absurd h (by decide)) fun _ H11 e11 => ?_
    · obtain ⟨rest, e⟩ := first_in (p := fun i => decide (dn ws (i + 1) ≤ dh)) hi (decide_eq_true (by rw [daysOf (hds i (Nat.le_refl _))]; exact hle)) (fun j hj => decide_eq_false (by rw [daysOf (hds j (by omega))]; exact hno j hj))
      rw [e] at q
      exact q
    · have e := first_no (p := fun i => decide (dn ws (i + 1) ≤ dh)) (n := ws.length) fun j hj => decide_eq_false (by rw [daysOf (hds j hj).1]; exact (hds j hj).2)
      rw [e] at q
      exact q
    · cases e : (List.range ws.length).filter fun i => decide (dn ws (i + 1) ≤ dh) with
      | nil =>
        rw [e] at hb2
        exact absurd hb2 (by decide)
      | cons i rest =>
        rw [e] at hgd
        exact ev_ixL (v := iN (i + 1)) (ev_var rfl) ev_c hgd (atI_nat (j := 0) rfl)
    · cases e : (List.range ws.length).filter fun i => decide (dn ws (i + 1) ≤ dh) with
      | nil => exact ev_c
      | cons i rest =>
        rw [e] at hb2
        exact absurd hb2 (by simp)
    have hy11 := hy10.ext e11
    have row11 := row10.ext e11
    have hdu11 := e11 _ _ hdu10
    -- the late plan
    refine q_call (ea_cons (ev_var rfl) ea_nil) fun H12 e12 => ⟨y, n, ws, rfl, hy11.ext e12, yd, fun nl => absurd lv nl, fun mm _ hmm tp us H13 e13 htp hus => ?_⟩
    have mc : mm = c + 1 := Most.uniq hmm (Top.most top)
    subst mc
    have hy13 := hy11.ext (e12.trans e13)
    have row13 := row11.ext (e12.trans e13)
    have hdu13 := e13 _ _ (e12 _ _ hdu11)
    refine q_asgL (xs := LN ((List.range ws.length).map (bno ws))) (el_is (el_R1 (n := ws.length) (fun _ => true) (bno ws) (ea_cons (ev_var rfl) ea_nil) (by omega) (fun _ => rfl) (fun _ _ _ _ => et_yes) (fun i hi _ H14 e14 => ?_)) (by rw [filter_yes])) fun bk H14 nbk e14 hbk => ?_
    · obtain ⟨b, hb⟩ := lv.bk hi
      rw [bno_eq hb]
      exact ev_c1 (sp := spBackOf) (ea_cons (ev_var rfl) (ea_cons (ev_var rfl) ea_nil)) fun H15 e15 Q q => ⟨y, n, ws, i, b, rfl, hy13.ext (e14.trans e15), yd, hi, hb, q⟩
    have hy14 := hy13.ext e14
    have row14 := row13.ext e14
    have hdu14 := e14 _ _ hdu13
    have htp14 := e14 _ _ htp
    have hus14 := hus.ext e14
    refine q_asgL el_none fun pl H15 npl e15 hpl => ?_
    have bnoAt : ∀ i, i < ws.length → (LN ((List.range ws.length).map (bno ws)))[i]? = some (iN (bno ws i)) := fun i hi => by
      refine LN_get ?_
      rw [List.getElem?_map, List.getElem?_range hi]
      rfl
    have bm : ∀ i, i < ws.length → ∃ b, MinB ws i b ∧ bno ws i = b + 1 ∧ b ≤ c := fun i hi => by
      obtain ⟨b, hb⟩ := lv.bk hi
      exact ⟨b, hb, bno_eq hb, top.2 i b hb⟩
    refine q_forR3 (M := c + 1) (ea_cons (ev_maxV (m := ((c + 1 : Nat) : Int)) (ns := ((List.range ws.length).map (bno ws)).map fun n : Nat => (n : Int)) (ev_var rfl) (by rw [LN_eq]; exact e15 _ _ hbk) ?_ ?_) (ea_cons ev_c (ea_cons (ev_un ev_c ru_neg) ea_nil))) (by omega)
      (fun i σ H' => ∃ o6 o11 o13 vs, σ = [some (.ref a), some (.ref r), some (.ref y), some (iN ws.length), some (iN m), some (.ref du), o6, some (iN dh), some (.ref gd), some (.ref tp), some (.ref bk), o11, some (.ref pl), o13, none] ∧ Ex H14 H' ∧ H' pl = some (.lst vs) ∧ Lots H' vs ((List.range i).map fun i => level ws (c - i)))
      (fun H16 e16 => ⟨_, _, _, [], rfl, e15.trans e16, e16 _ _ hpl, .nil⟩) ?_ ?_
    · obtain ⟨kk, hkk⟩ := top.1
      refine List.mem_map.mpr ⟨c + 1, List.mem_map.mpr ⟨kk, List.mem_range.mpr (bk_lt hkk.1), bno_eq hkk⟩, rfl⟩
    · intro z hz
      obtain ⟨x, hx, rfl⟩ := List.mem_map.mp hz
      obtain ⟨kk, hk1, rfl⟩ := List.mem_map.mp hx
      obtain ⟨b, _, e, hb⟩ := bm kk (List.mem_range.mp hk1)
      rw [e]
      omega
    · rintro i σ' H16 hi ⟨o6, o11, o13, vs, rfl, e16, hpl16, hvs⟩
      have vlen : vs.length = i := by rw [hvs.len, List.length_map, List.length_range]
      refine s_appU (xs := vs) (ys := LN (level ws (c - i))) hpl16 (ev_var rfl) (eu_tupL (el_is (el_R1 (n := ws.length) (fun k => decide (bno ws k = c + 1 - i)) (fun k => k) (ea_cons (ev_var rfl) ea_nil) (by omega) (fun _ => rfl) (fun j hj H17 e17 => et_is (et_test (ev_op (ev_ixL (ev_var rfl) (ev_var rfl) ((e16.trans e17) _ _ hbk) (atI_nat (bnoAt j hj))) (ev_var rfl) (rv_eq rfl))) ?_) (fun j hj _ H17 e17 => ev_var rfl)) ?_)) (by omega) fun p H17 np e17 hp => ?_
      · exact decide_eq_decide.mpr ⟨fun h => by injection h with h; omega, fun h => by rw [h]⟩
      · congr 1
        rw [List.map_id']
        unfold level evy
        refine List.filter_congr fun kk hk => ?_
        obtain ⟨b, hb, e, _⟩ := bm kk (List.mem_range.mp hk)
        rw [e]
        by_cases cc : MinB ws kk (c - i)
        · have := hb.uniq cc
          rw [@decide_eq_true _ (Classical.propDecidable _) cc]
          exact decide_eq_true (by omega)
        · rw [@decide_eq_false _ (Classical.propDecidable _) cc]
          refine decide_eq_false fun h => cc ?_
          rw [show c - i = b by omega]
          exact hb
      · refine ⟨_, _, _, vs ++ [.ref p], rfl, Ex.mut (e16.trans e17) npl, upd_same, ?_⟩
        have := Lots.upd (zs := vs ++ [.ref p]) (e17 _ _ hpl16) ((hvs.ext e17).snoc hp)
        rw [List.range_succ, List.map_append]
        exact this
    · rintro σ' H16 ⟨o6, o11, o13, vs, rfl, e16, hpl16, hvs⟩
      have hvs : Lots H16 vs (plan ws (c + 1)) := hvs
      have hy16 := hy14.ext e16
      have row16 := row14.ext e16
      have hdu16 := e16 _ _ hdu14
      have htp16 := e16 _ _ htp14
      have hus16 := hus14.ext e16
      have pfew := plan_few (ws := ws) (c + 1)
      have pl1 : ∀ l ∈ plan ws (c + 1), l.length ≤ 1000 := fun l hl => by
        have := (List.sublist_flatten_of_mem hl).length_le
        omega
      have okPlan : ∀ {σ : L2.St} {H : Hp} {ta tb : TE}, Y H y n ws → Ev ta σ H (.ref y) → Ev tb σ H (.ref tp) → H tp = some (.tup us) → Lots H us (plan ws (c + 1)) → Ev (tCall spPlan [] L2.E0 (tCons ta (tCons tb tNil))) σ H (.bl true) := fun h ha hb ht hu =>
        ev_c1 (sp := spPlan) (ea_cons ha (ea_cons hb ea_nil)) fun H17 e17 Q q => ⟨y, n, ws, .ref tp, rfl, h.ext e17, yd, Or.inr ⟨tp, us, plan ws (c + 1), rfl, e17 _ _ ht, hu.ext e17, by rw [plan_len]; omega, by omega, by rw [plan_ok lv top]; exact q⟩⟩
      refine q_when (b := false) (et_or (a := false) (b := false) (et_is (et_not (et_B (ev_c2 (sp := spAl 3) (z := .bl true) (x := .ref tp) (ev_var rfl) (EvP.of (eu_tupV (ev_var rfl) hpl16)) fun p H17 e17 hp Q q => al_lots (e17 _ _ htp16) hp (hus16.ext e17) (hvs.ext e17) (by rw [plan_len]; omega) pl1 q))) rfl) fun _ =>
        et_or (a := false) (b := false) (et_test (ev_op (x := .bl true) (y := .bl true) (z := .bl false) (okPlan hy16 (ev_var rfl) (ev_var rfl) htp16 hus16) ev_c fun H17 e17 Q q => ⟨true, true, rfl, rfl, q H17 (Ex.refl H17)⟩)) fun _ =>
        et_is (et_test (ev_op (x := iN (c + 1)) (y := iN (c + 1)) (ev_is (ev_lenT (ev_var rfl) htp16) (by rw [hus16.len, plan_len])) (ev_ixL (i := -1) (ev_var rfl) (ev_un ev_c ru_neg) hdu16 ?_) (rv_ne rfl))) (by rw [decide_eq_true rfl]; rfl)) (fun h => absurd h (by decide)) fun _ H17 e17 => ?_
      · obtain ⟨L', hL'⟩ : ∃ L', ws.length = L' + 1 := ⟨ws.length - 1, by omega⟩
        have e : (List.range ws.length).map (fun i => dn ws (i + 1)) = (List.range L').map (fun i => dn ws (i + 1)) ++ [c + 1] := by
          rw [hL', List.range_succ, List.map_append]
          have : dn ws (L' + 1) = c + 1 := by
            rw [← hL']
            exact dn_eq (top.days lv)
          show _ ++ [dn ws (L' + 1)] = _
          rw [this]
        rw [e, LN_snoc]
        exact atI_last _ _
      have hy17 := hy16.ext e17
      have row17 := row16.ext e17
      have htp17 := e17 _ _ htp16
      have hus17 := hus16.ext e17
      -- an order of all walls
      refine q_call (ea_cons (ev_var rfl) (ea_cons (ev_var rfl) ea_nil)) fun H18 e18 => ⟨H, r, ws.length, rfl, row17.ext e18, h6, fun order op H19 e19 row19 hop pm => ?_⟩
      obtain ⟨rx, hrx⟩ := (row17.ext e18).some
      have norx : ∀ ys, HO.lst rx ≠ .tup ys := fun ys z => by cases z
      have hy19 : Y H19 y n ws := ((hy17.ext e18).hide hrx).ext e19
      have htp19 : H19 tp = some (.tup us) := e19 _ _ (hide_tup hrx norx (e18 _ _ htp17))
      have hus19 : Lots H19 us (plan ws (c + 1)) := (hide_lots hrx norx (hus17.ext e18)).ext e19
      have olen : order.length = ws.length := by
        have := pm.length_eq
        rw [List.length_range] at this
        exact this
      have olt : ∀ x ∈ order, x < ws.length := fun x hx => List.mem_range.mp (pm.mem_iff.mp hx)
      refine q_when (b := false) (et_is (et_not (et_B (ev_c1 (sp := spIs) (z := .bl true) (vs := [.bl (isPlan ws (order.map fun k => [k])), .bl (grows ws order)]) (ea_cons (ev_cTL (sp := spPlan) (x := .ref y) (ls := order.map fun k => [k]) (ev_var rfl) ?_ fun p vs' H20 e20 hp hvs' Q q => ?_) (ea_cons (ev_c1 (sp := spGrows) (ea_cons (ev_var rfl) (ea_cons (ev_var rfl) ea_nil)) fun H20 e20 Q q => ⟨y, op, n, ws, order, rfl, hy19.ext e20, yd, e20 _ _ hop, by omega, olt, q⟩) ea_nil)) fun H20 e20 Q q => ⟨_, _, rfl, ?_⟩))) rfl) (fun h => absurd h (by decide)) fun _ H20 e20 => ?_
      · have := ell_T (K := K) (σ := [some (.ref a), some (.ref r), some (.ref y), some (iN ws.length), some (iN m), some (.ref du), o6, some (iN dh), some (.ref gd), some (.ref tp), some (.ref bk), o11, some (.ref pl), o13, some (.ref op)]) (H := H19) (l := order) (j := 11) (vs := [11]) (t := tYes) (te := tTup (tCons (tVar 11) tNil)) (tl := tVar 14) (fun _ => true) (fun k => [k]) (ep_var rfl hop) (by omega) (fun _ => rfl) (fun _ _ _ _ => et_yes) (fun x hx _ H20 e20 => EvP.of (eu_tup (ea_cons (ev_var rfl) ea_nil) (Nat.le_of_ble_eq_true rfl)))
        rw [filter_yes] at this
        exact this
      · exact ⟨y, n, ws, .ref p, rfl, hy19.ext e20, yd, Or.inr ⟨p, vs', order.map fun k => [k], rfl, hp, hvs', by rw [List.length_map]; omega, by rw [sing_flat]; omega, q⟩⟩
      · rw [sing_plan pm, decide_eq_true rfl]
        exact q
      have hy20 := hy19.ext e20
      have row20 := row19.ext e20
      have htp20 := e20 _ _ htp19
      have hus20 := hus19.ext e20
      -- without its first lot
      refine q_when (b := false) (et_is (et_not (et_test (ev_op (x := .bl false) (y := .bl false) (z := .bl true) (ev_c2 (sp := spPlan) (x := .ref y) (xs := us.drop 1) (ev_var rfl) (ep_is (ep_slice (lo := some 1) (hi := none) (ep_var rfl htp20) (eo_some ev_c) eo_none) (cut_tailV us)) fun p H21 e21 hp Q q => ?_) ev_c fun H21 e21 Q q => ⟨false, false, rfl, rfl, q H21 (Ex.refl H21)⟩))) rfl) (fun h => absurd h (by decide)) fun _ H21 e21 => ?_
      · refine ⟨y, n, ws, .ref p, rfl, hy20.ext e21, yd, Or.inr ⟨p, us.drop 1, (plan ws (c + 1)).drop 1, rfl, hp, (Lots.tail hus20).ext e21, by rw [List.length_drop, plan_len]; omega, ?_, by rw [plan_drop top]; exact q⟩⟩
        have : ((plan ws (c + 1)).drop 1).flatten.length ≤ (plan ws (c + 1)).flatten.length := by
          cases plan ws (c + 1) with
          | nil => exact Nat.le_refl _
          | cons x xs =>
            rw [List.drop_succ_cons, List.drop_zero, List.flatten_cons, List.length_append]
            omega
        omega
      have hy21 := hy20.ext e21
      have row21 := row20.ext e21
      -- what is no plan
      have one : 1 ≤ sizeLine := by decide
      refine ⟨.ref y, rfl, .ref r, rfl, Nat.zero_le _, fun p1 n1 => ⟨Nat.zero_le _, fun p2 n2 => ⟨one, fun p3 n3 => ⟨one, fun p4 n4 => ⟨iN ws.length, rfl, one, fun p5 n5' => ⟨one, fun p6 n6 => ⟨(by decide : 6 ≤ sizeLine), fun pt npt => ?_⟩⟩⟩⟩⟩⟩⟩
      have x1 := Ex.new (o := .lst []) n1
      have x2 := Ex.new (o := .tup []) n2
      have x3 := Ex.new (o := .tup [.ref p2]) n3
      have x4 := Ex.new (o := .tup [.non]) n4
      have x5 := Ex.new (o := .tup [iN ws.length]) n5'
      have x6 := Ex.new (o := .tup [.ref p5]) n6
      have x7 := Ex.new (o := .lst [.non, .ref p1, .int 3, .ref p3, .ref p4, .ref p6]) npt
      have y67 := x6.trans x7
      have y57 := x5.trans y67
      have y47 := x4.trans y57
      have y37 := x3.trans y47
      have y27 := x2.trans y37
      have y17 := x1.trans y27
      have rowT := row21.ext y17
      have ptr : pt ≠ r := (row21.ext (x1.trans (x2.trans (x3.trans (x4.trans (x5.trans x6)))))).ne npt
      refine ⟨H, r, pt, [.non, .ref p1, .int 3, .ref p3, .ref p4, .ref p6], rfl, rowT, upd_same, ptr, Nat.le_of_ble_eq_true rfl, Nat.le_of_ble_eq_true rfl, fun i x Hf hx ef rowf => ?_⟩
      obtain ⟨rx, hrx⟩ := rowT.some
      have norx : ∀ ys, HO.lst rx ≠ .tup ys := fun ys z => by cases z
      have keepT : ∀ {p : Addr} {zs : List V}, _ = some (HO.tup zs) → Hf p = some (.tup zs) := fun {p zs} h => ef _ _ (hide_tup hrx norx h)
      have hyf : Y Hf y n ws := ((hy21.ext y17).hide hrx).ext ef
      have p1r : p1 ≠ r := row21.ne n1
      refine ⟨y, n, ws, x, rfl, hyf, yd, ?_⟩
      have ret : RetV (.bl false) Hf (fun x H1 => ∃ a b, x = V.bl a ∧ V.bl false = V.bl b ∧ Q (.bl (decide (a = b))) H1) := fun H' _ => ⟨false, false, rfl, rfl, k H'⟩
      match i, hx with
      | 0, hx =>
        cases hx
        exact Or.inl ⟨Or.inl rfl, ret⟩
      | 1, hx =>
        cases hx
        exact Or.inl ⟨Or.inr (Or.inr (Or.inl ⟨p1, [], rfl, ef _ _ (hide_get (y27 _ _ upd_same) p1r)⟩)), ret⟩
      | 2, hx =>
        cases hx
        exact Or.inl ⟨Or.inr (Or.inl ⟨3, rfl⟩), ret⟩
      | 3, hx =>
        cases hx
        refine Or.inr ⟨p3, [.ref p2], [[]], rfl, keepT (y47 _ _ upd_same), .cons ⟨p2, rfl, keepT (y37 _ _ upd_same)⟩ .nil, Nat.le_of_ble_eq_true rfl, Nat.le_of_ble_eq_true rfl, ?_⟩
        rw [plan_e1 hne]
        exact ret
      | 4, hx =>
        cases hx
        exact Or.inl ⟨Or.inr (Or.inr (Or.inr ⟨p4, rfl, keepT (y57 _ _ upd_same)⟩)), ret⟩
      | 5, hx =>
        cases hx
        refine Or.inr ⟨p6, [.ref p5], [[ws.length]], rfl, keepT (x7 _ _ upd_same), .cons ⟨p5, rfl, keepT (y67 _ _ upd_same)⟩ .nil, Nat.le_of_ble_eq_true rfl, Nat.le_of_ble_eq_true rfl, ?_⟩
        rw [plan_e2]
        exact ret
      | i + 6, hx => simp at hx
end
end WL


set_option Elab.async false
set_option linter.all false
set_option maxRecDepth 100000
set_option maxHeartbeats 0
/-! The head: what the top's run leaves, and the law on it. -/
namespace WL
open PySem PySem.Spec PyProof.Rows L2
def dd (i : Nat) (x : Str) : He.DefD := ⟨(x, none), x, x, defArgs (top i), defBody (top i), defScope (top i), [], []⟩
def fn : List He.DefD := [dd 8 "is_int", dd 9 "is_from", dd 10 "need_from", dd 11 "is_wall", dd 12 "need_yard", dd 13 "need_wall", dd 14 "sides_of", dd 15 "every", dd 16 "reached", dd 17 "rest_of", dd 19 "is_growth", dd 21 "without", dd 22 "can_come_of", dd 24 "depths", dd 25 "least_back_of", dd 26 "least_back", dd 29 "lots_within", dd 30 "fewest_days", dd 31 "is_plan", dd 32 "late_plan", dd 33 "masons_for", dd 35 "_law_taken", dd 36 "_law_pick", dd 37 "_law_alike", dd 38 "_law_is", dd 39 "_law_yard", dd 40 "_law_sides", dd 41 "_law_come", dd 42 "_law_grows", dd 43 "_law_shuffled", dd 44 "_law_heart", dd 45 "_law_leaves", dd 46 "_law_days", dd 47 "law"]
def fa : List He.Fa := [.glo "is_int", .glo "is_from", .glo "need_from", .glo "is_wall", .glo "need_yard", .glo "need_wall", .glo "sides_of", .glo "every", .glo "reached", .glo "rest_of", .glo "is_growth", .glo "without", .glo "can_come_of", .glo "depths", .glo "least_back_of", .glo "least_back", .glo "lots_within", .glo "fewest_days", .glo "is_plan", .glo "late_plan", .glo "masons_for", .glo "_law_taken", .glo "_law_pick", .glo "_law_alike", .glo "_law_is", .glo "_law_yard", .glo "_law_sides", .glo "_law_come", .glo "_law_grows", .glo "_law_shuffled", .glo "_law_heart", .glo "_law_leaves", .glo "_law_days", .glo "law", .free "len", .free "sorted", .free "any", .free "all", .free "isinstance", .free "int", .free "bool", .free "tuple", .free "list", .free "str", .free "range", .free "enumerate", .free "zip", .free "max", .free "min", .free "set", .int "MOST_ROOMS" 9, .int "MOST_WALLS" 12, .int "MOST_MASONS" 12]
abbrev RR : PySem.W.OpenRow := PySem.W.OpenLaw.row PySem.Challenge.rw_walledin_k29_whole_days
abbrev hk : PySem.W.Hook := He.hookD 4 fa fn
def ob (s : PySem.W.SharedT) : He.AlD := He.obsDG 4 fa fn (HandSHeadRun.getT s)
theorem ob_eq (s : PySem.W.SharedT) : ob s = hk.obs s.abs := He.obsDG_eq (HandSHeadRun.getT_eq s)
def names1 : List PySem.Str := ["WallError", "BadYard", "BadWall", "BadNumber", "MOST_ROOMS", "MOST_WALLS", "is_int", "is_from", "need_from", "is_wall", "need_yard", "need_wall", "sides_of", "every", "reached", "rest_of", "is_growth", "without", "can_come_of", "depths"]
def names2 : List PySem.Str := ["least_back_of", "least_back", "MOST_MASONS", "lots_within", "fewest_days", "is_plan", "late_plan", "masons_for", "_law_taken", "_law_pick", "_law_alike", "_law_is", "_law_yard", "_law_sides", "_law_come", "_law_grows", "_law_shuffled", "_law_heart", "_law_leaves", "_law_days"]
theorem run (w : World) : HandSHeadRun.RunEq RR (PySem.W.view RR.prog [47]) hk ob 4000 (names1 ++ names2) w := by
  intro os
  kernel_rfl
theorem facts {P : Program} {w : World} {K : PySem.W.Frag} {h : Heap} {mg : Str → Option Value} {f : Addr} (X : K.In h) (G : h.Ns mainGlobals mg) (hfa : mg ("law" : Str) = some (.ref f)) (c : He.SaysD fa fn K) :
    ∃ fd : FuncData, (∀ (s : Shared) (v : Value), BindsTo s fd ⟨[v], []⟩ [("_law_script", v)]) ∧ ∀ base : Heap, K.In base → base.Ns mainGlobals mg → FnOk P w K mg base CX0 7 f fd ["_law_script"] (spLaw K) := by
  have D_is_int : Df K mg "is_int" 8 := by
    obtain ⟨fd, F⟩ := c.def_ 0 (d := dd 8 "is_int") rfl
    exact ⟨_, fd, F, He.glo_ok X G (c.fact 0 (f := .glo "is_int") rfl)⟩
  have D_is_from : Df K mg "is_from" 9 := by
    obtain ⟨fd, F⟩ := c.def_ 1 (d := dd 9 "is_from") rfl
    exact ⟨_, fd, F, He.glo_ok X G (c.fact 1 (f := .glo "is_from") rfl)⟩
  have D_need_from : Df K mg "need_from" 10 := by
    obtain ⟨fd, F⟩ := c.def_ 2 (d := dd 10 "need_from") rfl
    exact ⟨_, fd, F, He.glo_ok X G (c.fact 2 (f := .glo "need_from") rfl)⟩
  have D_is_wall : Df K mg "is_wall" 11 := by
    obtain ⟨fd, F⟩ := c.def_ 3 (d := dd 11 "is_wall") rfl
    exact ⟨_, fd, F, He.glo_ok X G (c.fact 3 (f := .glo "is_wall") rfl)⟩
  have D_need_yard : Df K mg "need_yard" 12 := by
    obtain ⟨fd, F⟩ := c.def_ 4 (d := dd 12 "need_yard") rfl
    exact ⟨_, fd, F, He.glo_ok X G (c.fact 4 (f := .glo "need_yard") rfl)⟩
  have D_need_wall : Df K mg "need_wall" 13 := by
    obtain ⟨fd, F⟩ := c.def_ 5 (d := dd 13 "need_wall") rfl
    exact ⟨_, fd, F, He.glo_ok X G (c.fact 5 (f := .glo "need_wall") rfl)⟩
  have D_sides_of : Df K mg "sides_of" 14 := by
    obtain ⟨fd, F⟩ := c.def_ 6 (d := dd 14 "sides_of") rfl
    exact ⟨_, fd, F, He.glo_ok X G (c.fact 6 (f := .glo "sides_of") rfl)⟩
  have D_every : Df K mg "every" 15 := by
    obtain ⟨fd, F⟩ := c.def_ 7 (d := dd 15 "every") rfl
    exact ⟨_, fd, F, He.glo_ok X G (c.fact 7 (f := .glo "every") rfl)⟩
  have D_reached : Df K mg "reached" 16 := by
    obtain ⟨fd, F⟩ := c.def_ 8 (d := dd 16 "reached") rfl
    exact ⟨_, fd, F, He.glo_ok X G (c.fact 8 (f := .glo "reached") rfl)⟩
  have D_rest_of : Df K mg "rest_of" 17 := by
    obtain ⟨fd, F⟩ := c.def_ 9 (d := dd 17 "rest_of") rfl
    exact ⟨_, fd, F, He.glo_ok X G (c.fact 9 (f := .glo "rest_of") rfl)⟩
  have D_is_growth : Df K mg "is_growth" 19 := by
    obtain ⟨fd, F⟩ := c.def_ 10 (d := dd 19 "is_growth") rfl
    exact ⟨_, fd, F, He.glo_ok X G (c.fact 10 (f := .glo "is_growth") rfl)⟩
  have D_without : Df K mg "without" 21 := by
    obtain ⟨fd, F⟩ := c.def_ 11 (d := dd 21 "without") rfl
    exact ⟨_, fd, F, He.glo_ok X G (c.fact 11 (f := .glo "without") rfl)⟩
  have D_can_come_of : Df K mg "can_come_of" 22 := by
    obtain ⟨fd, F⟩ := c.def_ 12 (d := dd 22 "can_come_of") rfl
    exact ⟨_, fd, F, He.glo_ok X G (c.fact 12 (f := .glo "can_come_of") rfl)⟩
  have D_depths : Df K mg "depths" 24 := by
    obtain ⟨fd, F⟩ := c.def_ 13 (d := dd 24 "depths") rfl
    exact ⟨_, fd, F, He.glo_ok X G (c.fact 13 (f := .glo "depths") rfl)⟩
  have D_least_back_of : Df K mg "least_back_of" 25 := by
    obtain ⟨fd, F⟩ := c.def_ 14 (d := dd 25 "least_back_of") rfl
    exact ⟨_, fd, F, He.glo_ok X G (c.fact 14 (f := .glo "least_back_of") rfl)⟩
  have D_least_back : Df K mg "least_back" 26 := by
    obtain ⟨fd, F⟩ := c.def_ 15 (d := dd 26 "least_back") rfl
    exact ⟨_, fd, F, He.glo_ok X G (c.fact 15 (f := .glo "least_back") rfl)⟩
  have D_lots_within : Df K mg "lots_within" 29 := by
    obtain ⟨fd, F⟩ := c.def_ 16 (d := dd 29 "lots_within") rfl
    exact ⟨_, fd, F, He.glo_ok X G (c.fact 16 (f := .glo "lots_within") rfl)⟩
  have D_fewest_days : Df K mg "fewest_days" 30 := by
    obtain ⟨fd, F⟩ := c.def_ 17 (d := dd 30 "fewest_days") rfl
    exact ⟨_, fd, F, He.glo_ok X G (c.fact 17 (f := .glo "fewest_days") rfl)⟩
  have D_is_plan : Df K mg "is_plan" 31 := by
    obtain ⟨fd, F⟩ := c.def_ 18 (d := dd 31 "is_plan") rfl
    exact ⟨_, fd, F, He.glo_ok X G (c.fact 18 (f := .glo "is_plan") rfl)⟩
  have D_late_plan : Df K mg "late_plan" 32 := by
    obtain ⟨fd, F⟩ := c.def_ 19 (d := dd 32 "late_plan") rfl
    exact ⟨_, fd, F, He.glo_ok X G (c.fact 19 (f := .glo "late_plan") rfl)⟩
  have D_masons_for : Df K mg "masons_for" 33 := by
    obtain ⟨fd, F⟩ := c.def_ 20 (d := dd 33 "masons_for") rfl
    exact ⟨_, fd, F, He.glo_ok X G (c.fact 20 (f := .glo "masons_for") rfl)⟩
  have D_law_taken : Df K mg "_law_taken" 35 := by
    obtain ⟨fd, F⟩ := c.def_ 21 (d := dd 35 "_law_taken") rfl
    exact ⟨_, fd, F, He.glo_ok X G (c.fact 21 (f := .glo "_law_taken") rfl)⟩
  have D_law_pick : Df K mg "_law_pick" 36 := by
    obtain ⟨fd, F⟩ := c.def_ 22 (d := dd 36 "_law_pick") rfl
    exact ⟨_, fd, F, He.glo_ok X G (c.fact 22 (f := .glo "_law_pick") rfl)⟩
  have D_law_alike : Df K mg "_law_alike" 37 := by
    obtain ⟨fd, F⟩ := c.def_ 23 (d := dd 37 "_law_alike") rfl
    exact ⟨_, fd, F, He.glo_ok X G (c.fact 23 (f := .glo "_law_alike") rfl)⟩
  have D_law_is : Df K mg "_law_is" 38 := by
    obtain ⟨fd, F⟩ := c.def_ 24 (d := dd 38 "_law_is") rfl
    exact ⟨_, fd, F, He.glo_ok X G (c.fact 24 (f := .glo "_law_is") rfl)⟩
  have D_law_yard : Df K mg "_law_yard" 39 := by
    obtain ⟨fd, F⟩ := c.def_ 25 (d := dd 39 "_law_yard") rfl
    exact ⟨_, fd, F, He.glo_ok X G (c.fact 25 (f := .glo "_law_yard") rfl)⟩
  have D_law_sides : Df K mg "_law_sides" 40 := by
    obtain ⟨fd, F⟩ := c.def_ 26 (d := dd 40 "_law_sides") rfl
    exact ⟨_, fd, F, He.glo_ok X G (c.fact 26 (f := .glo "_law_sides") rfl)⟩
  have D_law_come : Df K mg "_law_come" 41 := by
    obtain ⟨fd, F⟩ := c.def_ 27 (d := dd 41 "_law_come") rfl
    exact ⟨_, fd, F, He.glo_ok X G (c.fact 27 (f := .glo "_law_come") rfl)⟩
  have D_law_grows : Df K mg "_law_grows" 42 := by
    obtain ⟨fd, F⟩ := c.def_ 28 (d := dd 42 "_law_grows") rfl
    exact ⟨_, fd, F, He.glo_ok X G (c.fact 28 (f := .glo "_law_grows") rfl)⟩
  have D_law_shuffled : Df K mg "_law_shuffled" 43 := by
    obtain ⟨fd, F⟩ := c.def_ 29 (d := dd 43 "_law_shuffled") rfl
    exact ⟨_, fd, F, He.glo_ok X G (c.fact 29 (f := .glo "_law_shuffled") rfl)⟩
  have D_law_heart : Df K mg "_law_heart" 44 := by
    obtain ⟨fd, F⟩ := c.def_ 30 (d := dd 44 "_law_heart") rfl
    exact ⟨_, fd, F, He.glo_ok X G (c.fact 30 (f := .glo "_law_heart") rfl)⟩
  have D_law_leaves : Df K mg "_law_leaves" 45 := by
    obtain ⟨fd, F⟩ := c.def_ 31 (d := dd 45 "_law_leaves") rfl
    exact ⟨_, fd, F, He.glo_ok X G (c.fact 31 (f := .glo "_law_leaves") rfl)⟩
  have D_law_days : Df K mg "_law_days" 46 := by
    obtain ⟨fd, F⟩ := c.def_ 32 (d := dd 46 "_law_days") rfl
    exact ⟨_, fd, F, He.glo_ok X G (c.fact 32 (f := .glo "_law_days") rfl)⟩
  obtain ⟨fd, F⟩ := c.def_ 33 (d := dd 47 "law") rfl
  have e := hfa.symm.trans (He.glo_ok X G (c.fact 33 (f := .glo "law") rfl))
  cases e
  have T : Tx K mg := ⟨He.free_ok X G (c.fact 34 (f := .free "len") rfl), He.free_ok X G (c.fact 35 (f := .free "sorted") rfl), He.free_ok X G (c.fact 36 (f := .free "any") rfl), He.free_ok X G (c.fact 37 (f := .free "all") rfl), He.free_ok X G (c.fact 38 (f := .free "isinstance") rfl), He.free_ok X G (c.fact 39 (f := .free "int") rfl), He.free_ok X G (c.fact 40 (f := .free "bool") rfl), He.free_ok X G (c.fact 41 (f := .free "tuple") rfl), He.free_ok X G (c.fact 42 (f := .free "list") rfl), He.free_ok X G (c.fact 43 (f := .free "str") rfl), He.free_ok X G (c.fact 44 (f := .free "range") rfl), He.free_ok X G (c.fact 45 (f := .free "enumerate") rfl), He.free_ok X G (c.fact 46 (f := .free "zip") rfl), He.free_ok X G (c.fact 47 (f := .free "max") rfl), He.free_ok X G (c.fact 48 (f := .free "min") rfl), He.free_ok X G (c.fact 49 (f := .free "set") rfl), (let ⟨t, e⟩ := He.int_ok X G (c.fact 50 (f := .int "MOST_ROOMS" 9) rfl); ⟨_, e, t, rfl⟩), (let ⟨t, e⟩ := He.int_ok X G (c.fact 51 (f := .int "MOST_WALLS" 12) rfl); ⟨_, e, t, rfl⟩), (let ⟨t, e⟩ := He.int_ok X G (c.fact 52 (f := .int "MOST_MASONS" 12) rfl); ⟨_, e, t, rfl⟩)⟩
  have b := FunD.bindsA (ps := ["_law_script"]) F fun _ _ _ _ _ _ us hl => match us, hl with | [_], _ => rfl
  refine ⟨fd, fun s v => b s [v] rfl, fun base _ _ => ?_⟩
  have g_is_int := ok_is_int (P := P) (w := w) (base := base) T D_is_int
  have g_is_from := ok_is_from g_is_int D_is_from
  have g_need_from := ok_need_from g_is_from D_need_from
  have g_is_wall := ok_is_wall g_is_from T D_is_wall
  have g_need_yard := ok_need_yard g_is_from g_is_wall T D_need_yard
  have g_need_wall := ok_need_wall g_is_from T D_need_wall
  have g_sides_of := ok_sides_of (P := P) (w := w) (base := base) D_sides_of
  have g_every := ok_every (P := P) (w := w) (base := base) T D_every
  have g_reached := ok_reached g_sides_of T D_reached
  have g_rest_of := ok_rest_of g_every T D_rest_of
  have g_is_growth := ok_is_growth g_reached g_sides_of T D_is_growth
  have g_without := ok_without (P := P) (w := w) (base := base) T D_without
  have g_can_come_of := ok_can_come_of g_reached g_rest_of g_sides_of T D_can_come_of
  have g_depths := ok_depths g_sides_of T D_depths
  have g_least_back_of := ok_least_back_of g_depths g_without g_every g_sides_of T D_least_back_of
  have g_least_back := ok_least_back g_need_yard g_need_wall g_least_back_of D_least_back
  have g_lots_within := ok_lots_within (P := P) (w := w) (base := base) T D_lots_within
  have g_fewest_days := ok_fewest_days g_need_yard g_need_from g_is_growth g_every g_can_come_of g_lots_within T D_fewest_days
  have g_is_plan := ok_is_plan g_need_yard g_is_from g_every g_can_come_of T D_is_plan
  have g_late_plan := ok_late_plan g_need_yard g_is_growth g_every g_least_back_of T D_late_plan
  have g_masons_for := ok_masons_for g_need_yard g_need_from g_fewest_days T D_masons_for
  have g_law_taken := ok_law_taken (P := P) (w := w) (base := base) T D_law_taken
  have g_law_pick := ok_law_pick g_law_taken T D_law_pick
  have g_law_alike := ok_law_alike (P := P) (w := w) (base := base) T D_law_alike 3
  have g_law_is := ok_law_is (P := P) (w := w) (base := base) T D_law_is
  have g_law_yard := ok_law_yard g_law_taken T D_law_yard
  have g_law_sides := ok_law_sides (P := P) (w := w) (base := base) D_law_sides
  have g_law_come := ok_law_come g_law_sides T D_law_come
  have g_law_grows := ok_law_grows g_law_come g_law_sides T D_law_grows
  have g_law_shuffled := ok_law_shuffled g_law_taken T D_law_shuffled
  have g_law_heart := ok_law_heart g_law_come g_law_sides T D_law_heart
  have g_law_leaves := ok_law_leaves g_law_heart T D_law_leaves
  have g_law_days := ok_law_days g_law_come g_law_sides T D_law_days
  exact ok_law g_law_yard g_law_taken g_law_leaves g_fewest_days g_late_plan g_masons_for g_law_days g_law_alike g_least_back g_is_plan g_law_shuffled g_law_is g_law_grows g_law_pick T F
end WL
open PySem PySem.W PySem.Calls PyProof.Rows
theorem PySem.Challenge.cw_walledin_k29_whole_days_holds : PySem.Challenge.rw_walledin_k29_whole_days.Holds := by
  w_on; o_law
  refine HandSHeadRun.head_any (r := OpenLaw.row PySem.Challenge.rw_walledin_k29_whole_days) (q := view (OpenLaw.row PySem.Challenge.rw_walledin_k29_whole_days).prog [47]) (H := WL.hk) (ob := WL.ob) (M := 4000) (loose := WL.names1 ++ WL.names2) (d := HandSHeadRun.topDef (OpenLaw.row PySem.Challenge.rw_walledin_k29_whole_days).prog 47) (kwd := []) WL.ob_eq
    (by kernel_rfl) (fun s => by kernel_rfl) WL.run (by kernel_rfl) (by kernel_rfl) (by kernel_rfl) (by rfl) (by first | assumption | decide +kernel) (by decide +kernel) ⟨rfl, rfl, rfl, rfl, rfl, by decide +kernel⟩ ?hw ?hc
  case hw => w_witness2
  case hc =>
    refine L2.walk_ofE (l := PySem.Challenge.rw_walledin_k29_whole_days) (n := 63) (k := 7) (x := "_law_script") (CX := L2.CX0) rfl (by decide) (by kernel_rfl) ⟨rfl, by decide, by decide⟩ ?F (fun _ _ _ _ z => z)
    intro w mg fa h Y G hmg0
    obtain ⟨K, KX, c⟩ := Y
    have hmg : mg ("law" : PySem.Str) = some (.ref fa) := by
      have e : (HandSHeadRun.topDef (OpenLaw.row PySem.Challenge.rw_walledin_k29_whole_days).prog 47).name = ("law" : PySem.Str) := by kernel_rfl
      rw [← e]
      exact hmg0
    obtain ⟨fd, hb, hF⟩ := WL.facts (P := (PySem.Challenge.rw_walledin_k29_whole_days).prog) (w := w) KX G hmg c
    exact ⟨K, fd, WL.spLaw K, KX, hb, fun H a ns hl _ hS => ⟨a, ns, rfl, hS, fun _ => rfl⟩, hF⟩

