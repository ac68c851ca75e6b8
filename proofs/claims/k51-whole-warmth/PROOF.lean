import PyProof.Rows.All
import Wide.All
import OpenK.AllK
import Wide.FinOn
import HandS.ForMost
import HandS.Conv
import HandS.IsInst
import HandS.Star
import HandS.Style
import HandS.TupAny
import HandS.SortOrd
import HandS.SortRule
import HandS.SortInts
import PySem.Challenge.RW_walledin_k51_whole_warmth
import HandS.TupSets
import KE.KSortTup
import PyProof.TupleOfSeq
import PyProof.Rows.TupDisplay
import KE.GoesMore
set_option Elab.async false
set_option linter.all false
set_option maxRecDepth 100000
set_option maxHeartbeats 4100000
/-! The plain law: yards, lots, walks, warmth. No program here. -/
namespace Wk
/-! ### lists of numbers -/
theorem nodup_len : ∀ (n : Nat) (l : List Nat), l.Nodup → (∀ x ∈ l, x < n) → l.length ≤ n
  | 0, l, _, h => by
    cases l with
    | nil => exact Nat.le_refl _
    | cons a r => exact absurd (h a List.mem_cons_self) (Nat.not_lt_zero _)
  | n + 1, l, hd, h => by
    have h1 : (l.erase n).length ≤ n := nodup_len n (l.erase n) (hd.erase n) fun x hx => by
      have h2 := (hd.mem_erase_iff).mp hx
      have h3 := h x h2.2
      omega
    rw [List.length_erase] at h1
    split at h1 <;> omega
theorem sub_len : ∀ (l m : List Nat), l.Nodup → (∀ x ∈ l, x ∈ m) → l.length ≤ m.length
  | [], m, _, _ => Nat.zero_le _
  | a :: r, m, hd, h => by
    have hd' := List.nodup_cons.mp hd
    have ha : a ∈ m := h a List.mem_cons_self
    have h1 : r.length ≤ (m.erase a).length := sub_len r (m.erase a) hd'.2 fun x hx => by
      have hne : x ≠ a := fun e => hd'.1 (e ▸ hx)
      exact (List.mem_erase_of_ne hne).mpr (h x (List.mem_cons_of_mem _ hx))
    rw [List.length_erase_of_mem ha] at h1
    have : 0 < m.length := List.length_pos_of_mem ha
    rw [List.length_cons]
    omega
theorem srt_nodup {l : List Nat} (h : l.Pairwise (· < ·)) : l.Nodup := h.imp fun {a b} q => Nat.ne_of_lt q
theorem srt_uniq : ∀ {l m : List Nat}, l.Pairwise (· < ·) → m.Pairwise (· < ·) → (∀ x, x ∈ l ↔ x ∈ m) → l = m
  | [], [], _, _, _ => rfl
  | [], b :: s, _, _, h => absurd ((h b).mpr List.mem_cons_self) (by simp)
  | a :: r, [], _, _, h => absurd ((h a).mp List.mem_cons_self) (by simp)
  | a :: r, b :: s, hl, hm, h => by
    obtain ⟨l1, l2⟩ := List.pairwise_cons.mp hl
    obtain ⟨m1, m2⟩ := List.pairwise_cons.mp hm
    have e : a = b := by
      rcases List.mem_cons.mp ((h a).mp List.mem_cons_self) with e | ha
      · exact e
      · rcases List.mem_cons.mp ((h b).mpr List.mem_cons_self) with e | hb
        · exact e.symm
        · have := l1 b hb
          have := m1 a ha
          omega
    subst e
    rw [srt_uniq l2 m2 fun x => ?_]
    constructor
    · intro hx
      rcases List.mem_cons.mp ((h x).mp (List.mem_cons_of_mem _ hx)) with e | q
      · have := l1 x hx
        omega
      · exact q
    · intro hx
      rcases List.mem_cons.mp ((h x).mpr (List.mem_cons_of_mem _ hx)) with e | q
      · have := m1 x hx
        omega
      · exact q
theorem range_srt (n : Nat) : (List.range n).Pairwise (· < ·) := List.pairwise_lt_range
theorem rfilt_srt (n : Nat) (p : Nat → Bool) : ((List.range n).filter p).Pairwise (· < ·) := (range_srt n).filter p
/-- a sorted arrangement of a list without repeats -/
theorem srt_of {s ks : List Nat} (hp : s.Perm ks) (hs : s.Pairwise (· ≤ ·)) (hd : ks.Nodup) : s.Pairwise (· < ·) := by
  have hn : s.Nodup := hp.nodup_iff.mpr hd
  have h2 := hs.and hn
  exact h2.imp fun {a b} ⟨q, r⟩ => Nat.lt_of_le_of_ne q r
/-- the ints of a list of numbers, arranged -/
theorem ints_perm {ns : List Int} {ks : List Nat} (hp : ns.Perm (ks.map fun k : Nat => (k : Int))) (hs : ns.Pairwise (· ≤ ·)) :
    ∃ s : List Nat, ns = s.map (fun k : Nat => (k : Int)) ∧ s.Perm ks ∧ s.Pairwise (· ≤ ·) := by
  have h1 : ∀ x ∈ ns, ((x.toNat : Nat) : Int) = x := fun x hx => by
    obtain ⟨k, _, e⟩ := List.mem_map.mp (hp.mem_iff.mp hx)
    rw [← e]
    simp
  have h2 : ns = (ns.map Int.toNat).map (fun k : Nat => (k : Int)) := by
    rw [List.map_map]
    have : ns.map id = ns.map ((fun k : Nat => (k : Int)) ∘ Int.toNat) := List.map_congr_left fun x hx => (h1 x hx).symm
    rw [← this, List.map_id]
  refine ⟨ns.map Int.toNat, h2, ?_, ?_⟩
  · have q := hp.map Int.toNat
    rw [List.map_map] at q
    have e : ks.map (Int.toNat ∘ fun k : Nat => (k : Int)) = ks := by
      have : ks.map (Int.toNat ∘ fun k : Nat => (k : Int)) = ks.map id := List.map_congr_left fun x _ => by simp
      rw [this, List.map_id]
    rw [e] at q
    exact q
  · rw [h2] at hs
    have q := List.pairwise_map.mp hs
    exact q.imp fun {a b} h => Int.ofNat_le.mp h
/-! ### yards -/
abbrev Wall := Nat × Nat × Nat
structure Yard where
  many : Nat
  walls : List Wall
def Yard.w (y : Yard) (i : Nat) : Wall := y.walls.getD i (0, 0, 0)
abbrev Yard.m (y : Yard) : Nat := y.walls.length
structure Yard.Ok (y : Yard) : Prop where
  lo : 1 ≤ y.many
  hi : y.many ≤ 5
  nw : y.walls.length ≤ 6
  ws : ∀ w ∈ y.walls, w.1 < w.2.1 ∧ w.2.1 < y.many ∧ w.2.2 ≤ 2
theorem Yard.w_get {y : Yard} {i : Nat} (h : i < y.walls.length) : y.walls[i]? = some (y.w i) := by
  unfold Yard.w
  rw [List.getD_eq_getElem?_getD, List.getElem?_eq_getElem h]
  rfl
theorem Yard.w_mem {y : Yard} {i : Nat} (h : i < y.walls.length) : y.w i ∈ y.walls := List.mem_of_getElem? (Yard.w_get h)
theorem Yard.Ok.at {y : Yard} (k : y.Ok) {i : Nat} (h : i < y.walls.length) : (y.w i).1 < (y.w i).2.1 ∧ (y.w i).2.1 < y.many ∧ (y.w i).2.2 ≤ 2 := k.ws _ (Yard.w_mem h)
def sidesOf (w : Wall) : List Nat := if w.2.2 = 0 then [w.1] else if w.2.2 = 1 then [w.2.1] else [w.1, w.2.1]
theorem sides_mem {w : Wall} {a : Nat} (h : a ∈ sidesOf w) : a = w.1 ∨ a = w.2.1 := by
  unfold sidesOf at h
  split at h
  · exact .inl (List.mem_singleton.mp h)
  · split at h
    · exact Or.inr (List.mem_singleton.mp h)
    · simpa using h
/-- through the gap x from a to b, any way; from a told side -/
def Eu (y : Yard) (x a b : Nat) : Prop := (a = (y.w x).1 ∧ b = (y.w x).2.1) ∨ (a = (y.w x).2.1 ∧ b = (y.w x).1)
def Ed (y : Yard) (x a b : Nat) : Prop := Eu y x a b ∧ a ∈ sidesOf (y.w x)
abbrev Rl := Nat → Nat → Nat → Prop
inductive Cl (E : Rl) (lot : List Nat) : Nat → Prop
  | zero : Cl E lot 0
  | step {x a b : Nat} : x ∈ lot → E x a b → Cl E lot a → Cl E lot b
section
variable {E : Rl} {lot l1 l2 ks : List Nat} {n r : Nat}
theorem Cl.mono (h : ∀ x ∈ l1, x ∈ l2) (c : Cl E l1 r) : Cl E l2 r := by
  induction c with
  | zero => exact .zero
  | step hx e _ ih => exact .step (h _ hx) e ih
def SetEq (l1 l2 : List Nat) : Prop := ∀ x, x ∈ l1 ↔ x ∈ l2
theorem SetEq.symm (h : SetEq l1 l2) : SetEq l2 l1 := fun x => (h x).symm
theorem SetEq.refl (l : List Nat) : SetEq l l := fun _ => Iff.rfl
theorem Cl.iff (h : SetEq l1 l2) : Cl E l1 r ↔ Cl E l2 r := ⟨Cl.mono fun x q => (h x).mp q, Cl.mono fun x q => (h x).mpr q⟩
theorem Cl.nil (c : Cl E [] r) : r = 0 := by
  cases c with
  | zero => rfl
  | step hx _ _ => cases hx
def Bnd (E : Rl) (lot : List Nat) (n : Nat) : Prop := ∀ x ∈ lot, ∀ a b, E x a b → b < n
theorem Cl.lt (h0 : 0 < n) (hb : Bnd E lot n) (c : Cl E lot r) : r < n := by
  induction c with
  | zero => exact h0
  | step hx e _ _ => exact hb _ hx _ _ e
structure Good (E : Rl) (n : Nat) (lot ks : List Nat) : Prop where
  nd : ks.Nodup
  z : 0 ∈ ks
  cl : ∀ r ∈ ks, Cl E lot r
  lt : ∀ r ∈ ks, r < n
def ClosedOn (E : Rl) (xs ks : List Nat) : Prop := ∀ x ∈ xs, ∀ a b, E x a b → a ∈ ks → b ∈ ks
theorem Good.zero (h : 0 < n) : Good E n lot [0] := ⟨by simp, by simp, fun r hr => by
  have e := List.mem_singleton.mp hr
  subst e
  exact .zero, fun r hr => by
  have e := List.mem_singleton.mp hr
  subst e
  exact h⟩
theorem Good.all (g : Good E n lot ks) (c : ClosedOn E lot ks) (r : Nat) : r ∈ ks ↔ Cl E lot r := by
  refine ⟨g.cl r, fun h => ?_⟩
  induction h with
  | zero => exact g.z
  | step hx e _ ih => exact c _ hx _ _ e ih
theorem Good.len (g : Good E n lot ks) : ks.length ≤ n := nodup_len n ks g.nd g.lt
theorem Good.add (g : Good E n lot ks) (hb : Bnd E lot n) {x a b : Nat} (hx : x ∈ lot) (e : E x a b) (ha : a ∈ ks) (hn : b ∉ ks) : Good E n lot (ks ++ [b]) := by
  refine ⟨?_, List.mem_append_left _ g.z, fun r hr => ?_, fun r hr => ?_⟩
  · rw [List.nodup_append]
    refine ⟨g.nd, by simp, fun c hc d hd q => ?_⟩
    have := List.mem_singleton.mp hd
    subst this
    subst q
    exact hn hc
  · rcases List.mem_append.mp hr with h | h
    · exact g.cl r h
    · have := List.mem_singleton.mp h
      subst this
      exact .step hx e (g.cl _ ha)
  · rcases List.mem_append.mp hr with h | h
    · exact g.lt r h
    · have := List.mem_singleton.mp h
      subst this
      exact hb _ hx _ _ e
open Classical in
noncomputable def roomsOf (E : Rl) (n : Nat) (lot : List Nat) : List Nat := (List.range n).filter fun r => decide (Cl E lot r)
open Classical in
theorem mem_rooms : r ∈ roomsOf E n lot ↔ r < n ∧ Cl E lot r := by
  unfold roomsOf
  rw [List.mem_filter, List.mem_range, decide_eq_true_eq]
theorem rooms_srt : (roomsOf E n lot).Pairwise (· < ·) := rfilt_srt _ _
theorem rooms_sort {s : List Nat} (g : Good E n lot ks) (c : ClosedOn E lot ks) (hp : s.Perm ks) (hs : s.Pairwise (· ≤ ·)) : s = roomsOf E n lot := by
  refine srt_uniq (srt_of hp hs g.nd) rooms_srt fun x => ?_
  rw [hp.mem_iff, mem_rooms]
  exact ⟨fun h => ⟨g.lt x h, g.cl x h⟩, fun h => (g.all c x).mpr h.2⟩
theorem rooms_len (g : Good E n lot ks) (c : ClosedOn E lot ks) : ks.length = (roomsOf E n lot).length := by
  have hd : (roomsOf E n lot).Nodup := srt_nodup rooms_srt
  have hm : ∀ x, x ∈ ks ↔ x ∈ roomsOf E n lot := fun x => by
    rw [mem_rooms]
    exact ⟨fun h => ⟨g.lt x h, g.cl x h⟩, fun h => (g.all c x).mpr h.2⟩
  have h1 := sub_len ks _ g.nd fun x h => (hm x).mp h
  have h2 := sub_len _ ks hd fun x h => (hm x).mpr h
  omega
theorem rooms_eq (h : SetEq l1 l2) : roomsOf E n l1 = roomsOf E n l2 := by
  refine srt_uniq rooms_srt rooms_srt fun x => ?_
  rw [mem_rooms, mem_rooms, Cl.iff h]
end
/-! ### Ready, open lots, words -/
section
variable {y : Yard} {L w t l1 l2 : List Nat} {x : Nat}
theorem Eu.lt (k : y.Ok) {lot : List Nat} (hl : ∀ x ∈ lot, x < y.m) : Bnd (Eu y) lot y.many := fun x hx a b e => by
  have h := k.at (hl x hx)
  rcases e with ⟨_, e⟩ | ⟨_, e⟩ <;> rw [e] <;> omega
theorem Ed.lt (k : y.Ok) {lot : List Nat} (hl : ∀ x ∈ lot, x < y.m) : Bnd (Ed y) lot y.many := fun x hx a b e => Eu.lt k hl x hx a b e.1
noncomputable def J (y : Yard) (lot : List Nat) : Nat := (roomsOf (Eu y) y.many lot).length
theorem J_eq (h : SetEq l1 l2) : J y l1 = J y l2 := by
  unfold J
  rw [rooms_eq h]
theorem J_pos (k : y.Ok) : 1 ≤ J y L := List.length_pos_of_mem (mem_rooms.mpr ⟨k.lo, .zero⟩)
theorem J_le : J y L ≤ y.many := nodup_len _ _ (srt_nodup rooms_srt) fun x h => (mem_rooms.mp h).1
def Ready (y : Yard) (lot : List Nat) (x : Nat) : Prop := ∃ a, a ∈ sidesOf (y.w x) ∧ Cl (Ed y) lot a
theorem Ready.mono (h : ∀ x ∈ l1, x ∈ l2) (r : Ready y l1 x) : Ready y l2 x := by
  obtain ⟨a, h1, h2⟩ := r
  exact ⟨a, h1, h2.mono h⟩
theorem Ready.iff (h : SetEq l1 l2) : Ready y l1 x ↔ Ready y l2 x := ⟨Ready.mono fun x q => (h x).mp q, Ready.mono fun x q => (h x).mpr q⟩
def Growth (y : Yard) (lot : List Nat) : Prop := ∀ x ∈ lot, Ready y lot x
theorem Growth.iff (h : SetEq l1 l2) : Growth y l1 ↔ Growth y l2 :=
  ⟨fun g x hx => (Ready.iff h).mp (g x ((h x).mpr hx)), fun g x hx => (Ready.iff h).mpr (g x ((h x).mp hx))⟩
/-- orders of some walls that can be walked -/
def Vd (y : Yard) : List Nat → Prop
  | [] => True
  | x :: t => x < y.m ∧ x ∉ t ∧ Ready y t x ∧ Vd y t
theorem Vd.lt : ∀ {w : List Nat}, Vd y w → ∀ x ∈ w, x < y.m
  | [], _, _, h => by cases h
  | a :: t, v, x, h => by
    rcases (List.mem_cons (a := _)).mp h with e | h
    · rw [e]
      exact v.1
    · exact Vd.lt v.2.2.2 x h
theorem Vd.nodup : ∀ {w : List Nat}, Vd y w → w.Nodup
  | [], _ => List.nodup_nil
  | a :: t, v => List.nodup_cons.mpr ⟨v.2.1, Vd.nodup v.2.2.2⟩
theorem Vd.growth : ∀ {w : List Nat}, Vd y w → Growth y w
  | [], _, _, h => by cases h
  | a :: t, v, x, h => by
    rcases (List.mem_cons (a := _)).mp h with e | h
    · rw [e]
      exact v.2.2.1.mono fun z hz => List.mem_cons_of_mem _ hz
    · exact (Vd.growth v.2.2.2 x h).mono fun z hz => List.mem_cons_of_mem _ hz
/-- each open lot is the lot of some order -/
theorem grow_part (hd : L.Nodup) (hl : ∀ x ∈ L, x < y.m) (g : Growth y L) : ∀ k, k ≤ L.length → ∃ w, Vd y w ∧ (∀ x ∈ w, x ∈ L) ∧ w.length = k
  | 0, _ => ⟨[], trivial, fun x h => (by cases h), rfl⟩
  | k + 1, hk => by
    obtain ⟨w, v, hs, el⟩ := grow_part hd hl g k (by omega)
    by_cases h : ∃ x, x ∈ L ∧ x ∉ w ∧ Ready y w x
    · obtain ⟨x, h1, h2, h3⟩ := h
      refine ⟨x :: w, ⟨hl x h1, h2, h3, v⟩, fun z hz => ?_, by rw [List.length_cons, el]⟩
      rcases (List.mem_cons (a := _)).mp hz with e | hz
      · rw [e]
        exact h1
      · exact hs z hz
    · exfalso
      have hc : ∀ r, Cl (Ed y) L r → Cl (Ed y) w r := fun r c => by
        induction c with
        | zero => exact .zero
        | @step x a b hx e _ ih =>
          by_cases hw : x ∈ w
          · exact .step hw e ih
          · exact (h ⟨x, hx, hw, a, e.2, ih⟩).elim
      have h2 : ∀ x ∈ L, x ∈ w := fun x hx => by
        by_cases hw : x ∈ w
        · exact hw
        · obtain ⟨a, h3, h4⟩ := g x hx
          exact (h ⟨x, hx, hw, a, h3, hc a h4⟩).elim
      have := sub_len L w hd h2
      omega
theorem same_set (h1 : w.Nodup) (hs : ∀ x ∈ w, x ∈ L) (hl : L.length ≤ w.length) : SetEq w L := fun x => by
  refine ⟨hs x, fun hx => ?_⟩
  by_cases hw : x ∈ w
  · exact hw
  · have h2 : (x :: w).Nodup := List.nodup_cons.mpr ⟨hw, h1⟩
    have := sub_len (x :: w) L h2 fun z hz => by
      rcases (List.mem_cons (a := _)).mp hz with e | hz
      · rw [e]
        exact hx
      · exact hs z hz
    rw [List.length_cons] at this
    omega
theorem grow_word (hd : L.Nodup) (hl : ∀ x ∈ L, x < y.m) (g : Growth y L) : ∃ w, Vd y w ∧ SetEq w L ∧ w.length = L.length := by
  obtain ⟨w, v, hs, e⟩ := grow_part hd hl g L.length (Nat.le_refl _)
  exact ⟨w, v, same_set v.nodup hs (by omega), e⟩
def Lot (m : Nat) (L : List Nat) : Prop := L.Pairwise (· < ·) ∧ ∀ x ∈ L, x < m
def OpenL (y : Yard) (L : List Nat) : Prop := Lot y.m L ∧ Growth y L
theorem Lot.nodup {m : Nat} (h : Lot m L) : L.Nodup := srt_nodup h.1
theorem Lot.len {m : Nat} (h : Lot m L) : L.length ≤ m := nodup_len m L h.nodup h.2
theorem Lot.uniq {m : Nat} (h : Lot m l1) (h' : Lot m l2) (e : SetEq l1 l2) : l1 = l2 := srt_uniq h.1 h'.1 e
theorem Lot.range (m : Nat) : Lot m (List.range m) := ⟨range_srt m, fun x h => List.mem_range.mp h⟩
theorem Lot.nil (m : Nat) : Lot m [] := ⟨List.Pairwise.nil, fun x h => by cases h⟩
theorem open_nil : OpenL y [] := ⟨Lot.nil _, fun x h => by cases h⟩
def wo (L : List Nat) (x : Nat) : List Nat := L.filter fun z => decide (z ≠ x)
theorem mem_wo {z : Nat} : z ∈ wo L x ↔ z ∈ L ∧ z ≠ x := by
  unfold wo
  rw [List.mem_filter, decide_eq_true_eq]
theorem Lot.wo {m : Nat} (h : Lot m L) (x : Nat) : Lot m (wo L x) := ⟨h.1.filter _, fun z hz => h.2 z (mem_wo.mp hz).1⟩
theorem wo_cons (hn : x ∉ t) (h : SetEq (x :: t) L) : SetEq t (wo L x) := fun z => by
  rw [mem_wo]
  constructor
  · intro hz
    exact ⟨(h z).mp (List.mem_cons_of_mem _ hz), fun e => hn (e ▸ hz)⟩
  · rintro ⟨hz, hne⟩
    rcases List.mem_cons.mp ((h z).mpr hz) with e | q
    · exact (hne e).elim
    · exact q
theorem wo_back (hx : x ∈ L) (h : SetEq t (wo L x)) : SetEq (x :: t) L := fun z => by
  rw [List.mem_cons, h z, mem_wo]
  constructor
  · rintro (e | q)
    · rw [e]
      exact hx
    · exact q.1
  · intro hz
    by_cases e : z = x
    · exact .inl e
    · exact .inr ⟨hz, e⟩
theorem wo_len (hd : L.Nodup) (hx : x ∈ L) : (wo L x).length + 1 = L.length := by
  have h1 : (wo L x).Nodup := hd.filter _
  have h2 : (x :: wo L x).Nodup := List.nodup_cons.mpr ⟨fun h => (mem_wo.mp h).2 rfl, h1⟩
  have e : SetEq (x :: wo L x) L := wo_back hx (SetEq.refl _)
  have a := sub_len _ _ h2 fun z hz => (e z).mp hz
  have b := sub_len _ _ hd fun z hz => (e z).mpr hz
  rw [List.length_cons] at a b
  omega
/-- what can be set next -/
def Can (y : Yard) (L : List Nat) (x : Nat) : Prop := x ∈ L ∧ Ready y (wo L x) x ∧ Growth y (wo L x)
theorem Vd.can (v : Vd y (x :: t)) (h : SetEq (x :: t) L) : Can y L x ∧ SetEq t (wo L x) := by
  have e := wo_cons v.2.1 h
  exact ⟨⟨(h x).mp List.mem_cons_self, (Ready.iff e).mp v.2.2.1, (Growth.iff e).mp v.2.2.2.growth⟩, e⟩
theorem Can.vd (hl : ∀ x ∈ L, x < y.m) (c : Can y L x) (v : Vd y t) (h : SetEq t (wo L x)) : Vd y (x :: t) ∧ SetEq (x :: t) L := by
  refine ⟨⟨hl x c.1, fun q => ?_, (Ready.iff h).mpr c.2.1, v⟩, wo_back c.1 h⟩
  exact (mem_wo.mp ((h x).mp q)).2 rfl
theorem Can.rest (o : OpenL y L) (c : Can y L x) : OpenL y (wo L x) := ⟨o.1.wo x, c.2.2⟩
theorem open_can (o : OpenL y L) (h : L ≠ []) : ∃ x, Can y L x := by
  obtain ⟨w, v, e, el⟩ := grow_word o.1.nodup o.1.2 o.2
  cases w with
  | nil =>
    have : L.length = 0 := el.symm
    exact (h (List.length_eq_zero_iff.mp this)).elim
  | cons x t => exact ⟨x, (v.can e).1⟩
open Classical in
noncomputable def canGo (y : Yard) (L : List Nat) : List Nat := L.filter fun x => decide (Ready y (wo L x) x ∧ Growth y (wo L x))
open Classical in
theorem mem_go : x ∈ canGo y L ↔ Can y L x := by
  unfold canGo Can
  rw [List.mem_filter, decide_eq_true_eq]
open Classical in
noncomputable def canCome (y : Yard) (L : List Nat) : List Nat := (List.range y.m).filter fun x => decide (x ∉ L ∧ Ready y L x)
open Classical in
theorem mem_come : x ∈ canCome y L ↔ x < y.m ∧ x ∉ L ∧ Ready y L x := by
  unfold canCome
  rw [List.mem_filter, List.mem_range, decide_eq_true_eq]
/-- a lot and one more -/
theorem open_come (o : OpenL y L) (h : x ∈ canCome y L) {s : List Nat} (hp : s.Perm (L ++ [x])) (hs : s.Pairwise (· ≤ ·)) : OpenL y s ∧ s.length = L.length + 1 ∧ SetEq s (x :: L) := by
  obtain ⟨h1, h2, h3⟩ := mem_come.mp h
  have e : SetEq s (x :: L) := fun z => by
    rw [hp.mem_iff]
    simp [or_comm]
  have hd : (L ++ [x]).Nodup := by
    rw [List.nodup_append]
    refine ⟨o.1.nodup, by simp, fun a ha b hb q => ?_⟩
    have := List.mem_singleton.mp hb
    subst this
    subst q
    exact h2 ha
  refine ⟨⟨⟨srt_of hp hs hd, fun z hz => ?_⟩, fun z hz => ?_⟩, ?_, e⟩
  · rcases List.mem_cons.mp ((e z).mp hz) with q | q
    · rw [q]
      exact h1
    · exact o.1.2 z q
  · have hm : ∀ z ∈ L, z ∈ s := fun z hz => (e z).mpr (List.mem_cons_of_mem _ hz)
    rcases List.mem_cons.mp ((e z).mp hz) with q | q
    · rw [q]
      exact h3.mono hm
    · exact (o.2 z q).mono hm
  · rw [hp.length_eq, List.length_append]
    rfl
theorem come_open (o : OpenL y L) (h : L ≠ []) : ∃ x, x ∈ L ∧ OpenL y (wo L x) ∧ x ∈ canCome y (wo L x) ∧ (wo L x).length + 1 = L.length := by
  obtain ⟨x, c⟩ := open_can o h
  exact ⟨x, c.1, c.rest o, mem_come.mpr ⟨o.1.2 x c.1, fun q => (mem_wo.mp q).2 rfl, c.2.1⟩, wo_len o.1.nodup c.1⟩
/-! ### warmth -/
noncomputable def warm (y : Yard) : List Nat → Int
  | [] => 0
  | _ :: t => (J y t : Int) - 1 + warm y t
/-- v is the greatest, or the least, warmth of the orders of L -/
def Best (gr : Bool) (y : Yard) (L : List Nat) (v : Int) : Prop :=
  (∃ w, Vd y w ∧ SetEq w L ∧ warm y w = v) ∧ ∀ w, Vd y w → SetEq w L → if gr = true then warm y w ≤ v else v ≤ warm y w
theorem Best.uniq {gr : Bool} {v u : Int} (a : Best gr y L v) (b : Best gr y L u) : v = u := by
  obtain ⟨⟨w1, v1, e1, q1⟩, m1⟩ := a
  obtain ⟨⟨w2, v2, e2, q2⟩, m2⟩ := b
  have h1 := m1 w2 v2 e2
  have h2 := m2 w1 v1 e1
  cases gr with
  | true =>
    rw [if_pos rfl] at h1 h2
    omega
  | false =>
    rw [if_neg Bool.false_ne_true] at h1 h2
    omega
theorem best_nil {gr : Bool} : Best gr y [] 0 := by
  refine ⟨⟨[], trivial, SetEq.refl _, rfl⟩, fun w _ e => ?_⟩
  cases w with
  | nil => cases gr <;> simp [warm]
  | cons x t => exact absurd ((e x).mp List.mem_cons_self) (by simp)
theorem best_step {gr : Bool} {f : Nat → Int} {v : Int} (o : OpenL y L) (hne : L ≠ []) (hf : ∀ x, x ∈ canGo y L → Best gr y (wo L x) (f x))
    (hv : v ∈ (canGo y L).map fun x => f x + (J y (wo L x) : Int) - 1) (hm : ∀ u ∈ (canGo y L).map fun x => f x + (J y (wo L x) : Int) - 1, if gr = true then u ≤ v else v ≤ u) : Best gr y L v := by
  refine ⟨?_, fun w vw e => ?_⟩
  · obtain ⟨x, hx, ev⟩ := List.mem_map.mp hv
    obtain ⟨⟨t, vt, et, qt⟩, _⟩ := hf x hx
    obtain ⟨h1, h2⟩ := (mem_go.mp hx).vd o.1.2 vt et
    refine ⟨x :: t, h1, h2, ?_⟩
    show (J y t : Int) - 1 + warm y t = v
    rw [J_eq et, qt]
    omega
  · cases w with
    | nil =>
      exfalso
      cases L with
      | nil => exact hne rfl
      | cons z r => exact absurd ((e z).mpr List.mem_cons_self) (by simp)
    | cons x t =>
      obtain ⟨c, et⟩ := vw.can e
      have hx := mem_go.mpr c
      have h1 := (hf x hx).2 t vw.2.2.2 et
      have h2 := hm _ (List.mem_map.mpr ⟨x, hx, rfl⟩)
      show if gr = true then (J y t : Int) - 1 + warm y t ≤ v else v ≤ (J y t : Int) - 1 + warm y t
      rw [J_eq et]
      cases gr with
      | true =>
        rw [if_pos rfl] at h1 h2 ⊢
        omega
      | false =>
        rw [if_neg Bool.false_ne_true] at h1 h2 ⊢
        omega
/-! ### as Python compares tuples -/
def lexB : List Nat → List Nat → Bool
  | [], [] => false
  | [], _ :: _ => true
  | _ :: _, [] => false
  | a :: r, b :: s => if a = b then lexB r s else decide (a < b)
theorem lexB_asym : ∀ {a b : List Nat}, lexB a b = true → lexB b a = false
  | [], [], h => by cases h
  | [], _ :: _, _ => rfl
  | _ :: _, [], h => by cases h
  | a :: r, b :: s, h => by
    unfold lexB at h ⊢
    by_cases e : a = b
    · rw [if_pos e] at h
      rw [if_pos e.symm]
      exact lexB_asym h
    · rw [if_neg e] at h
      rw [if_neg (fun q => e q.symm)]
      have := of_decide_eq_true h
      exact decide_eq_false fun z => by omega
theorem lexB_tr : ∀ {a b c : List Nat}, lexB a b = false → lexB b c = false → lexB a c = false
  | [], [], [], _, _ => rfl
  | [], [], _ :: _, _, h => by cases h
  | [], _ :: _, _, z, _ => by cases z
  | _ :: _, [], [], _, _ => rfl
  | _ :: _, [], _ :: _, _, h => by cases h
  | _ :: _, _ :: _, [], _, _ => rfl
  | a :: r, b :: s, c :: t, h, k => by
    unfold lexB at h k ⊢
    by_cases e : a = b
    · rw [if_pos e] at h
      by_cases e2 : b = c
      · rw [if_pos e2] at k
        rw [if_pos (e.trans e2)]
        exact lexB_tr h k
      · rw [if_neg e2] at k
        rw [e, if_neg e2]
        exact k
    · rw [if_neg e] at h
      have h := of_decide_eq_false h
      by_cases e2 : b = c
      · rw [if_neg (by omega)]
        exact decide_eq_false fun z => by omega
      · rw [if_neg e2] at k
        have k := of_decide_eq_false k
        rw [if_neg (by omega)]
        exact decide_eq_false fun z => by omega
theorem lexB_eq : ∀ {a b : List Nat}, lexB a b = false → lexB b a = false → a = b
  | [], [], _, _ => rfl
  | [], _ :: _, z, _ => by cases z
  | _ :: _, [], _, z => by cases z
  | a :: r, b :: s, h, k => by
    unfold lexB at h k
    by_cases e : a = b
    · rw [if_pos e] at h
      rw [if_pos e.symm] at k
      rw [e, lexB_eq h k]
    · rw [if_neg e] at h
      rw [if_neg (fun q => e q.symm)] at k
      have h := of_decide_eq_false h
      have k := of_decide_eq_false k
      omega
theorem lexB_refl (a : List Nat) : lexB a a = false := by
  cases h : lexB a a with
  | false => rfl
  | true =>
    have := lexB_asym h
    rw [h] at this
    cases this
/-- the least order of L with the least warmth -/
def Cool (y : Yard) (L w : List Nat) : Prop := Vd y w ∧ SetEq w L ∧ Best false y L (warm y w) ∧ ∀ w', Vd y w' → SetEq w' L → warm y w' = warm y w → lexB w' w = false
theorem Cool.uniq {w' : List Nat} (a : Cool y L w) (b : Cool y L w') : w = w' := by
  have e : warm y w = warm y w' := a.2.2.1.uniq b.2.2.1
  exact lexB_eq (b.2.2.2 w a.1 a.2.1 e) (a.2.2.2 w' b.1 b.2.1 e.symm)
theorem cool_nil : Cool y [] [] := ⟨trivial, SetEq.refl _, best_nil, fun w' _ e _ => by
  cases w' with
  | nil => rfl
  | cons x t => exact absurd ((e x).mp List.mem_cons_self) (by simp)⟩
theorem cool_step {f : Nat → Int} {v : Int} (o : OpenL y L) (hf : ∀ z, z ∈ canGo y L → Best false y (wo L z) (f z)) (hv : Best false y L v) (hx : x ∈ canGo y L)
    (ex : f x + (J y (wo L x) : Int) - 1 = v) (hfirst : ∀ z, z ∈ canGo y L → z < x → f z + (J y (wo L z) : Int) - 1 ≠ v) (c : Cool y (wo L x) t) : Cool y L (x :: t) := by
  obtain ⟨vt, et, bt, mt⟩ := c
  obtain ⟨h1, h2⟩ := (mem_go.mp hx).vd o.1.2 vt et
  have e1 : warm y t = f x := bt.uniq (hf x hx)
  have e2 : warm y (x :: t) = v := by
    show (J y t : Int) - 1 + warm y t = v
    rw [J_eq et, e1]
    omega
  refine ⟨h1, h2, by rw [e2]; exact hv, fun w' v' s' q' => ?_⟩
  cases w' with
  | nil => exact absurd ((s' x).mpr ((h2 x).mp List.mem_cons_self)) (by simp)
  | cons z u =>
    obtain ⟨c', eu⟩ := v'.can s'
    have hz := mem_go.mpr c'
    have b1 := (hf z hz).2 u v'.2.2.2 eu
    rw [if_neg Bool.false_ne_true] at b1
    have q2 : (J y u : Int) - 1 + warm y u = v := q'.trans e2
    rw [J_eq eu] at q2
    -- the least of z's rest
    obtain ⟨⟨t2, vt2, et2, qt2⟩, _⟩ := hf z hz
    obtain ⟨g1, g2⟩ := c'.vd o.1.2 vt2 et2
    have b2 := hv.2 _ g1 g2
    rw [if_neg Bool.false_ne_true] at b2
    have q3 : warm y (z :: t2) = (J y (wo L z) : Int) - 1 + f z := by
      show (J y t2 : Int) - 1 + warm y t2 = _
      rw [J_eq et2, qt2]
    have q4 : f z + (J y (wo L z) : Int) - 1 = v := by omega
    have q5 : x ≤ z := by
      by_cases h : z < x
      · exact (hfirst z hz h q4).elim
      · omega
    show lexB (z :: u) (x :: t) = false
    unfold lexB
    by_cases e : z = x
    · rw [if_pos e]
      subst e
      refine mt u v'.2.2.2 eu ?_
      rw [e1]
      omega
    · rw [if_neg e]
      exact decide_eq_false fun z => by omega
/-! ### when rooms are cut off -/
open Classical in
/-- behind how many walls a room is cut off -/
noncomputable def cut (y : Yard) : List Nat → Nat → Nat
  | [], _ => 0
  | x :: t, r => if Cl (Eu y) (x :: t) r then cut y t r + 1 else 0
open Classical in
theorem cut_cons (y : Yard) (x : Nat) (t : List Nat) (r : Nat) : cut y (x :: t) r = if Cl (Eu y) (x :: t) r then cut y t r + 1 else 0 := rfl
theorem cut_not : ∀ {w : List Nat} {r : Nat}, ¬ Cl (Eu y) w r → cut y w r = 0
  | [], _, _ => rfl
  | x :: t, r, h => by
    rw [cut_cons, if_neg h]
theorem cut_le : ∀ {w : List Nat} {r : Nat}, cut y w r ≤ w.length
  | [], _ => Nat.le_refl _
  | x :: t, r => by
    rw [cut_cons]
    split
    · rw [List.length_cons]
      exact Nat.succ_le_succ cut_le
    · exact Nat.zero_le _
/-- it is the first number of walls behind which the room is cut off -/
theorem cut_spec : ∀ {w : List Nat} {r k : Nat}, r ≠ 0 → (∀ i, i < k → Cl (Eu y) (w.drop i) r) → ¬ Cl (Eu y) (w.drop k) r → cut y w r = k
  | [], r, 0, _, _, _ => rfl
  | [], r, k + 1, h0, h, _ => (h0 (Cl.nil (h 0 (Nat.succ_pos _)))).elim
  | x :: t, r, 0, _, _, hn => cut_not hn
  | x :: t, r, k + 1, h0, h, hn => by
    have h1 : Cl (Eu y) (x :: t) r := h 0 (Nat.succ_pos _)
    rw [cut_cons, if_pos h1, cut_spec h0 (fun i hi => h (i + 1) (Nat.succ_lt_succ hi)) hn]
open Classical in
theorem sum_cl (k : y.Ok) (w : List Nat) : (((List.range' 1 (y.many - 1)).map fun r => if Cl (Eu y) w r then (1 : Int) else 0)).sum = (J y w : Int) - 1 := by
  have key : ∀ l : List Nat, ((l.filter fun r => decide (Cl (Eu y) w r)).length : Int) = (l.map fun r => if Cl (Eu y) w r then (1 : Int) else 0).sum := fun l => by
    induction l with
    | nil => rfl
    | cons a r ih =>
      rw [List.map_cons, List.sum_cons, ← ih]
      by_cases h : Cl (Eu y) w a
      · rw [List.filter_cons_of_pos (by rw [decide_eq_true_eq]; exact h), if_pos h, List.length_cons]
        omega
      · rw [List.filter_cons_of_neg (by rw [decide_eq_true_eq]; exact h), if_neg h]
        omega
  have e : List.range y.many = 0 :: List.range' 1 (y.many - 1) := by
    have h1 := k.lo
    obtain ⟨n, hn⟩ : ∃ n, y.many = n + 1 := ⟨y.many - 1, by omega⟩
    rw [hn, List.range_eq_range', List.range'_succ]
    simp
  unfold J roomsOf
  rw [e, List.filter_cons_of_pos (by rw [decide_eq_true_eq]; exact .zero), List.length_cons, ← key]
  omega
theorem sum_add (l : List Nat) (f g : Nat → Int) : (l.map fun r => f r + g r).sum = (l.map f).sum + (l.map g).sum := by
  induction l with
  | nil => rfl
  | cons a r ih =>
    rw [List.map_cons, List.sum_cons, ih, List.map_cons, List.sum_cons, List.map_cons, List.sum_cons]
    omega
open Classical in
theorem sum_cut (k : y.Ok) : ∀ w : List Nat, ((List.range' 1 (y.many - 1)).map fun r => (cut y w r : Int)).sum = (J y w : Int) - 1 + warm y w
  | [] => by
    have h : ((List.range' 1 (y.many - 1)).map fun r => (cut y [] r : Int)) = (List.range' 1 (y.many - 1)).map fun r => if Cl (Eu y) [] r then (1 : Int) else 0 := by
      refine List.map_congr_left fun r hr => ?_
      rw [if_neg]
      · rfl
      · intro c
        have := c.nil
        have := List.mem_range'.mp hr
        omega
    rw [h, sum_cl k]
    simp [warm]
  | x :: t => by
    have h : ((List.range' 1 (y.many - 1)).map fun r => (cut y (x :: t) r : Int)) = (List.range' 1 (y.many - 1)).map fun r => (if Cl (Eu y) (x :: t) r then (1 : Int) else 0) + (cut y t r : Int) := by
      refine List.map_congr_left fun r hr => ?_
      show ((if Cl (Eu y) (x :: t) r then cut y t r + 1 else 0 : Nat) : Int) = _
      by_cases c : Cl (Eu y) (x :: t) r
      · rw [if_pos c, if_pos c]
        omega
      · rw [if_neg c, if_neg c, cut_not fun c' => c (c'.mono fun z hz => List.mem_cons_of_mem _ hz)]
        rfl
    rw [h, sum_add, sum_cl k, sum_cut k t]
    rfl
/-- the warmth by the times at which rooms are cut off -/
theorem warm_cut (k : y.Ok) (w : List Nat) : ((List.range' 1 (y.many - 1)).map fun r => max (0 : Int) ((cut y w r : Int) - 1)).sum = warm y w := by
  cases w with
  | nil =>
    have h : ((List.range' 1 (y.many - 1)).map fun r => max (0 : Int) ((cut y [] r : Int) - 1)) = (List.range' 1 (y.many - 1)).map fun _ => (0 : Int) := List.map_congr_left fun r _ => rfl
    rw [h]
    have : ∀ l : List Nat, (l.map fun _ => (0 : Int)).sum = 0 := fun l => by
      induction l with
      | nil => rfl
      | cons a r ih => rw [List.map_cons, List.sum_cons, ih]; rfl
    exact this _
  | cons x t =>
    have h : ((List.range' 1 (y.many - 1)).map fun r => max (0 : Int) ((cut y (x :: t) r : Int) - 1)) = (List.range' 1 (y.many - 1)).map fun r => (cut y t r : Int) := by
      refine List.map_congr_left fun r _ => ?_
      rw [cut_cons]
      split
      · rw [show ((cut y t r + 1 : Nat) : Int) - 1 = (cut y t r : Int) by omega]
        omega
      · rename_i c
        rw [cut_not fun c' => c (c'.mono fun z hz => List.mem_cons_of_mem _ hz)]
        rfl
    rw [h, sum_cut k]
    rfl
/-- the sum that warmth takes -/
theorem warm_sum : ∀ w : List Nat, ((List.range w.length).map fun p => (J y (w.drop (p + 1)) : Int) - 1).sum = warm y w
  | [] => rfl
  | x :: t => by
    rw [List.length_cons, List.range_succ_eq_map, List.map_cons, List.sum_cons, List.map_map]
    have := warm_sum t
    show (J y t : Int) - 1 + ((List.range t.length).map fun p => (J y (t.drop (p + 1)) : Int) - 1).sum = _
    rw [this]
    rfl
/-! ### all orders -/
theorem full_set (v : Vd y w) (h : w.length = y.m) : SetEq w (List.range y.m) :=
  same_set v.nodup (fun x hx => List.mem_range.mpr (v.lt x hx)) (by rw [List.length_range]; omega)
theorem set_full (v : Vd y w) (h : SetEq w (List.range y.m)) : w.length = y.m := by
  have a := sub_len _ _ v.nodup fun x hx => (h x).mp hx
  have b := sub_len _ _ (Lot.range y.m).nodup fun x hx => (h x).mpr hx
  rw [List.length_range] at a b
  omega
/-- ws: the list of all orders that can be walked, sorted -/
structure Words (y : Yard) (ws : List (List Nat)) : Prop where
  mem : ∀ w, w ∈ ws ↔ Vd y w ∧ w.length = y.m
  srt : ws.Pairwise fun a b => lexB b a = false
theorem Words.growth {ws : List (List Nat)} (h : Words y ws) (hne : ws ≠ []) : Growth y (List.range y.m) := by
  cases ws with
  | nil => exact (hne rfl).elim
  | cons w r =>
    obtain ⟨v, e⟩ := (h.mem w).mp List.mem_cons_self
    exact (Growth.iff (full_set v e)).mp v.growth
theorem Words.none {ws : List (List Nat)} (h : Words y ws) (e : ws = []) : ¬ Growth y (List.range y.m) := fun g => by
  obtain ⟨w, v, s, _⟩ := grow_word (Lot.range y.m).nodup (Lot.range y.m).2 g
  have := (h.mem w).mpr ⟨v, set_full v s⟩
  rw [e] at this
  cases this
theorem Words.best {ws : List (List Nat)} (h : Words y ws) {gr : Bool} {v : Int} (hv : v ∈ ws.map (warm y)) (hm : ∀ u ∈ ws.map (warm y), if gr = true then u ≤ v else v ≤ u) : Best gr y (List.range y.m) v := by
  refine ⟨?_, fun w vw e => hm _ (List.mem_map.mpr ⟨w, (h.mem w).mpr ⟨vw, set_full vw e⟩, rfl⟩)⟩
  obtain ⟨w, hw, e⟩ := List.mem_map.mp hv
  obtain ⟨vw, el⟩ := (h.mem w).mp hw
  exact ⟨w, vw, full_set vw el, e⟩
theorem Words.cool {ws : List (List Nat)} (h : Words y ws) {j : Nat} {w : List Nat} (hw : ws[j]? = some w) (hm : ∀ u ∈ ws.map (warm y), warm y w ≤ u)
    (hf : ∀ i w', i < j → ws[i]? = some w' → warm y w' ≠ warm y w) : Cool y (List.range y.m) w := by
  have hmem := List.mem_of_getElem? hw
  obtain ⟨vw, el⟩ := (h.mem w).mp hmem
  refine ⟨vw, full_set vw el, h.best (List.mem_map.mpr ⟨w, hmem, rfl⟩) (fun u hu => by rw [if_neg Bool.false_ne_true]; exact hm u hu), fun w' v' s' q' => ?_⟩
  obtain ⟨i, hi⟩ := List.mem_iff_getElem?.mp ((h.mem w').mpr ⟨v', set_full v' s'⟩)
  have hij : ¬ i < j := fun q => hf i w' q hi q'
  by_cases e : i = j
  · subst e
    rw [hw] at hi
    have e2 := Option.some.inj hi
    rw [e2]
    exact lexB_refl _
  · obtain ⟨a1, b1⟩ := List.getElem?_eq_some_iff.mp hw
    obtain ⟨a2, b2⟩ := List.getElem?_eq_some_iff.mp hi
    have := List.pairwise_iff_getElem.mp h.srt j i a1 a2 (by omega)
    rw [b1, b2] at this
    exact this
end
end Wk
/-! The text by places; callees; short words. -/
namespace Wk
open PySem L2
def topS (i : Nat) : Stmt := PySem.Challenge.pw_walledin_k51_whole_warmth.main.body.getD i (.Pass ⟨0, 0, 0, 0⟩)
abbrev s_is_int : Stmt := topS 7
theorem sc_is_int : FnScope ["value"] ["value"] (defScope s_is_int) := ⟨rfl, rfl, rfl, by decide +kernel, rfl, by decide +kernel, by decide +kernel⟩
abbrev s_is_from : Stmt := topS 8
theorem sc_is_from : FnScope ["value", "least", "most"] ["value", "least", "most"] (defScope s_is_from) := ⟨rfl, rfl, rfl, by decide +kernel, rfl, by decide +kernel, by decide +kernel⟩
abbrev s_is_wall : Stmt := topS 9
theorem sc_is_wall : FnScope ["value", "many", "low", "high", "side"] ["value", "many"] (defScope s_is_wall) := ⟨rfl, rfl, rfl, by decide +kernel, rfl, by decide +kernel, by decide +kernel⟩
abbrev s_need_yard : Stmt := topS 10
theorem sc_need_yard : FnScope ["value", "index", "wall"] ["value"] (defScope s_need_yard) := ⟨rfl, rfl, rfl, by decide +kernel, rfl, by decide +kernel, by decide +kernel⟩
abbrev s_sides_of : Stmt := topS 11
theorem sc_sides_of : FnScope ["wall", "low", "high", "side"] ["wall"] (defScope s_sides_of) := ⟨rfl, rfl, rfl, by decide +kernel, rfl, by decide +kernel, by decide +kernel⟩
abbrev s_every : Stmt := topS 12
theorem sc_every : FnScope ["yard"] ["yard"] (defScope s_every) := ⟨rfl, rfl, rfl, by decide +kernel, rfl, by decide +kernel, by decide +kernel⟩
abbrev s_reached : Stmt := topS 13
theorem sc_reached : FnScope ["yard", "lot", "found", "rising", "number", "low", "high", "side", "one", "other"] ["yard", "lot"] (defScope s_reached) := ⟨rfl, rfl, rfl, by decide +kernel, rfl, by decide +kernel, by decide +kernel⟩
abbrev s_joined : Stmt := topS 14
theorem sc_joined : FnScope ["yard", "lot", "found", "rising", "number", "low", "high"] ["yard", "lot"] (defScope s_joined) := ⟨rfl, rfl, rfl, by decide +kernel, rfl, by decide +kernel, by decide +kernel⟩
abbrev s_rest_of : Stmt := topS 15
theorem sc_rest_of : FnScope ["yard", "lot", "number"] ["yard", "lot"] (defScope s_rest_of) := ⟨rfl, rfl, rfl, by decide +kernel, rfl, by decide +kernel, by decide +kernel⟩
abbrev s_need_order : Stmt := topS 17
theorem sc_need_order : FnScope ["yard", "value", "one"] ["yard", "value"] (defScope s_need_order) := ⟨rfl, rfl, rfl, by decide +kernel, rfl, by decide +kernel, by decide +kernel⟩
abbrev s_is_ready : Stmt := topS 18
theorem sc_is_ready : FnScope ["yard", "lot", "number", "rooms", "room"] ["yard", "lot", "number"] (defScope s_is_ready) := ⟨rfl, rfl, rfl, by decide +kernel, rfl, by decide +kernel, by decide +kernel⟩
abbrev s_is_growth : Stmt := topS 19
theorem sc_is_growth : FnScope ["yard", "lot", "rooms", "room", "number"] ["yard", "lot"] (defScope s_is_growth) := ⟨rfl, rfl, rfl, by decide +kernel, rfl, by decide +kernel, by decide +kernel⟩
abbrev s_without : Stmt := topS 21
theorem sc_without : FnScope ["lot", "number", "one"] ["lot", "number"] (defScope s_without) := ⟨rfl, rfl, rfl, by decide +kernel, rfl, by decide +kernel, by decide +kernel⟩
abbrev s_can_go_of : Stmt := topS 22
theorem sc_can_go_of : FnScope ["yard", "lot", "found", "number", "rest"] ["yard", "lot"] (defScope s_can_go_of) := ⟨rfl, rfl, rfl, by decide +kernel, rfl, by decide +kernel, by decide +kernel⟩
abbrev s_can_come_of : Stmt := topS 23
theorem sc_can_come_of : FnScope ["yard", "lot", "rooms", "some", "one", "room"] ["yard", "lot"] (defScope s_can_come_of) := ⟨rfl, rfl, rfl, by decide +kernel, rfl, by decide +kernel, by decide +kernel⟩
abbrev s_layers_of : Stmt := topS 24
theorem sc_layers_of : FnScope ["yard", "found", "some", "lot", "number"] ["yard"] (defScope s_layers_of) := ⟨rfl, rfl, rfl, by decide +kernel, rfl, by decide +kernel, by decide +kernel⟩
abbrev s_warmth_of : Stmt := topS 26
theorem sc_warmth_of : FnScope ["yard", "order", "place"] ["yard", "order"] (defScope s_warmth_of) := ⟨rfl, rfl, rfl, by decide +kernel, rfl, by decide +kernel, by decide +kernel⟩
abbrev s_warmth : Stmt := topS 27
theorem sc_warmth : FnScope ["yard", "order"] ["yard", "order"] (defScope s_warmth) := ⟨rfl, rfl, rfl, by decide +kernel, rfl, by decide +kernel, by decide +kernel⟩
abbrev s_warmths : Stmt := topS 28
theorem sc_warmths : FnScope ["yard", "greatest", "found", "layer", "lot", "some", "one", "rest"] ["yard", "greatest"] (defScope s_warmths) := ⟨rfl, rfl, rfl, by decide +kernel, rfl, by decide +kernel, by decide +kernel⟩
abbrev s_least_warmth : Stmt := topS 29
theorem sc_least_warmth : FnScope ["yard"] ["yard"] (defScope s_least_warmth) := ⟨rfl, rfl, rfl, by decide +kernel, rfl, by decide +kernel, by decide +kernel⟩
abbrev s_greatest_warmth : Stmt := topS 30
theorem sc_greatest_warmth : FnScope ["yard"] ["yard"] (defScope s_greatest_warmth) := ⟨rfl, rfl, rfl, by decide +kernel, rfl, by decide +kernel, by decide +kernel⟩
abbrev s_cool_order : Stmt := topS 31
theorem sc_cool_order : FnScope ["yard", "told", "lot", "found", "one", "rest"] ["yard"] (defScope s_cool_order) := ⟨rfl, rfl, rfl, by decide +kernel, rfl, by decide +kernel, by decide +kernel⟩
abbrev s_cut_time : Stmt := topS 33
theorem sc_cut_time : FnScope ["yard", "order", "room", "many"] ["yard", "order", "room"] (defScope s_cut_time) := ⟨rfl, rfl, rfl, by decide +kernel, rfl, by decide +kernel, by decide +kernel⟩
abbrev s_cut_times : Stmt := topS 34
theorem sc_cut_times : FnScope ["yard", "order", "room"] ["yard", "order"] (defScope s_cut_times) := ⟨rfl, rfl, rfl, by decide +kernel, rfl, by decide +kernel, by decide +kernel⟩
abbrev s__law_taken : Stmt := topS 36
theorem sc__law_taken : FnScope ["_law_row", "_law_many", "_law_found", "_law_cell"] ["_law_row", "_law_many"] (defScope s__law_taken) := ⟨rfl, rfl, rfl, by decide +kernel, rfl, by decide +kernel, by decide +kernel⟩
abbrev s__law_alike : Stmt := topS 37
theorem sc__law_alike : FnScope ["_law_found", "_law_due", "_law_k"] ["_law_found", "_law_due"] (defScope s__law_alike) := ⟨rfl, rfl, rfl, by decide +kernel, rfl, by decide +kernel, by decide +kernel⟩
abbrev s__law_yard : Stmt := topS 38
theorem sc__law_yard : FnScope ["_law_row", "_law_rooms", "_law_shuts", "_law_either", "_law_many", "_law_found", "_law_room", "_law_low", "_law_turn", "_law_high"] ["_law_row", "_law_rooms", "_law_shuts", "_law_either"] (defScope s__law_yard) := ⟨rfl, rfl, rfl, by decide +kernel, rfl, by decide +kernel, by decide +kernel⟩
abbrev s__law_sides : Stmt := topS 39
theorem sc__law_sides : FnScope ["_law_shut"] ["_law_shut"] (defScope s__law_sides) := ⟨rfl, rfl, rfl, by decide +kernel, rfl, by decide +kernel, by decide +kernel⟩
abbrev s__law_come : Stmt := topS 40
theorem sc__law_come : FnScope ["_law_yard_here", "_law_lot", "_law_found", "_law_turn", "_law_number", "_law_shut", "_law_side", "_law_other"] ["_law_yard_here", "_law_lot"] (defScope s__law_come) := ⟨rfl, rfl, rfl, by decide +kernel, rfl, by decide +kernel, by decide +kernel⟩
abbrev s__law_ways : Stmt := topS 41
theorem sc__law_ways : FnScope ["_law_yard_here", "_law_lot", "_law_room", "_law_found", "_law_turn", "_law_number", "_law_low", "_law_high", "_law_side", "_law_one", "_law_other"] ["_law_yard_here", "_law_lot", "_law_room"] (defScope s__law_ways) := ⟨rfl, rfl, rfl, by decide +kernel, rfl, by decide +kernel, by decide +kernel⟩
abbrev s__law_words : Stmt := topS 42
theorem sc__law_words : FnScope ["_law_yard_here", "_law_found", "_law_turn", "_law_later", "_law_tail", "_law_rooms", "_law_number", "_law_side"] ["_law_yard_here"] (defScope s__law_words) := ⟨rfl, rfl, rfl, by decide +kernel, rfl, by decide +kernel, by decide +kernel⟩
abbrev s__law_shuffled : Stmt := topS 43
theorem sc__law_shuffled : FnScope ["_law_row", "_law_many", "_law_left", "_law_found"] ["_law_row", "_law_many"] (defScope s__law_shuffled) := ⟨rfl, rfl, rfl, by decide +kernel, rfl, by decide +kernel, by decide +kernel⟩
abbrev s_law : Stmt := topS 44
theorem sc_law : FnScope ["_law_script", "_law_row", "_law_yard_here", "_law_words_here", "_law_order", "_law_told", "_law_word", "_law_whole", "_law_place", "_law_time"] ["_law_script"] (defScope s_law) := ⟨rfl, rfl, rfl, by decide +kernel, rfl, by decide +kernel, by decide +kernel⟩
/-! ### built-ins -/
theorem b_len : bootBuiltins "len" = some (.builtin "len") := by decide +kernel
theorem b_isinstance : bootBuiltins "isinstance" = some (.builtin "isinstance") := by decide +kernel
theorem b_any : bootBuiltins "any" = some (.builtin "any") := by decide +kernel
theorem b_all : bootBuiltins "all" = some (.builtin "all") := by decide +kernel
theorem b_sum : bootBuiltins "sum" = some (.builtin "sum") := by decide +kernel
theorem b_max : bootBuiltins "max" = some (.builtin "max") := by decide +kernel
theorem b_min : bootBuiltins "min" = some (.builtin "min") := by decide +kernel
theorem b_sorted : bootBuiltins "sorted" = some (.builtin "sorted") := by decide +kernel
theorem b_int : bootBuiltins "int" = some (.type "int") := by decide +kernel
theorem b_bool : bootBuiltins "bool" = some (.type "bool") := by decide +kernel
theorem b_str : bootBuiltins "str" = some (.type "str") := by decide +kernel
theorem b_tuple : bootBuiltins "tuple" = some (.type "tuple") := by decide +kernel
theorem b_list : bootBuiltins "list" = some (.type "list") := by decide +kernel
/-- what the module leaves at the names of built-ins and constants -/
structure Txt (mg : Str → Option Value) : Prop where
  len : mg "len" = none
  isinstance : mg "isinstance" = none
  any : mg "any" = none
  all : mg "all" = none
  sum : mg "sum" = none
  max : mg "max" = none
  min : mg "min" = none
  sorted : mg "sorted" = none
  int : mg "int" = none
  bool : mg "bool" = none
  str : mg "str" = none
  tuple : mg "tuple" = none
  list : mg "list" = none
  range : mg "range" = none
  enumerate : mg "enumerate" = none
  rooms : ∃ t, mg "MOST_ROOMS" = some (.int 9 t)
  walls : ∃ t, mg "MOST_WALLS" = some (.int 12 t)
/-- a def that may be called: where it stands, what it promises -/
structure Cal (P : Program) (w : World) (K : PySem.W.Frag) (mg : Str → Option Value) (base : Heap) (k : Nat) (x : Str) (ps : List Str) (sp : Sp) where
  f : Addr
  fd : FuncData
  F : FnOk P w K mg base CX0 k f fd ps sp
  g : mg x = some (.ref f)
  kp : PySem.W.keepIn K (Value.ref f) = true
  b : Binds K fd ps []
theorem pf {X : Cx} {k j : Nat} {x : Str} {ps : List Str} {sp : Sp} {t : TA} {e : Expr} {es : List Expr} {p pos : Pos} (c : Cal X.prog X.w X.K X.mg X.base k x ps sp) (hr : Room j X.A) (hk : k ≤ j) (hg : Gl X x) (ha : PA X (e :: es) t)
    (hx : (x == ("__debug__" : Str)) = false := by decide) (he : starEach (e :: es) X.env = (false, eval e X.env) :: starEach es X.env := by rfl) (hpl : (backTo pos (starEach es X.env)).any (·.1) = false := by rfl) :
    PE X (.Call (.Name x p) (e :: es) [] pos) (tCall sp [] E0 t) := pe_call c.F (hr.mono hk) hg c.g c.kp c.b .nil pass0 ha hx he hpl
/-! ### heaps -/
theorem same_upd {H : Hp} {p : Addr} {o : HO} (h : H p = none) : Same H (upd H p o) := fun c z there => by
  rw [upd_ne (ne_of_none there h)]
  exact there
/-- all but one object -/
def del (H : Hp) (l : Addr) : Hp := fun b => if b = l then none else H b
theorem del_ne {H : Hp} {l b : Addr} (h : b ≠ l) : del H l b = H b := by
  unfold del
  rw [if_neg h]
theorem del_at {H : Hp} {l : Addr} : del H l l = none := by
  unfold del
  rw [if_pos rfl]
theorem del_same {H : Hp} {l : Addr} : Same (del H l) H := fun b o e => by
  unfold del at e
  split at e
  · cases e
  · exact e
theorem del_upd {H : Hp} {l : Addr} {o : HO} : del (upd H l o) l = del H l := by
  funext b
  unfold del upd
  split <;> rfl
theorem Same.del {H H' : Hp} {l : Addr} (s : Same H H') : Same (Wk.del H l) (Wk.del H' l) := fun b o e => by
  unfold Wk.del at e ⊢
  split at e
  · cases e
  · rename_i h
    rw [if_neg h]
    exact s _ _ e
/-- a new object's heap keeps what stood, the changed one apart -/
theorem Same.upd {H H' : Hp} {l : Addr} {o : HO} (s : Same H H') (h : H l = none) : Same H (upd H' l o) := fun b x e => by
  rw [upd_ne (ne_of_none e h)]
  exact s _ _ e
theorem Same.toDel {H H' : Hp} {l : Addr} (s : Same H H') (h : H l = none) : Same H (Wk.del H' l) := fun b x e => by
  rw [del_ne (ne_of_none e h)]
  exact s _ _ e
/-! ### data -/
abbrev vn (n : Nat) : V := V.int (n : Int)
abbrev tn (ns : List Nat) : List V := ns.map vn
/-- a tuple of numbers -/
def Tu (H : Hp) (v : V) (ns : List Nat) : Prop := ∃ a, v = .ref a ∧ H a = some (.tup (tn ns))
theorem Tu.mono {H H' : Hp} {v : V} {ns : List Nat} (s : Same H H') (h : Tu H v ns) : Tu H' v ns := by
  obtain ⟨a, e, h⟩ := h
  exact ⟨a, e, s _ _ h⟩
def tw (w : Wall) : List V := [vn w.1, vn w.2.1, vn w.2.2]
/-- a yard -/
structure Yd (H : Hp) (v : V) (y : Yard) : Prop where
  ok : y.Ok
  ex : ∃ (a b : Addr) (ps : List Addr), v = .ref a ∧ H a = some (.tup [vn y.many, .ref b]) ∧ H b = some (.tup (ps.map V.ref)) ∧ Paired (fun p w => H p = some (.tup (tw w))) ps y.walls
theorem paired_mono {α β : Type} {R S : α → β → Prop} (h : ∀ a b, R a b → S a b) : ∀ {l : List α} {m : List β}, Paired R l m → Paired S l m
  | _, _, .nil => .nil
  | _, _, .cons r t => .cons (h _ _ r) (paired_mono h t)
theorem Yd.mono {H H' : Hp} {v : V} {y : Yard} (s : Same H H') (h : Yd H v y) : Yd H' v y := by
  obtain ⟨k, a, b, ps, e, h1, h2, h3⟩ := h
  exact ⟨k, a, b, ps, e, s _ _ h1, s _ _ h2, paired_mono (fun p w q => s _ _ q) h3⟩
theorem paired_get {α β : Type} {R : α → β → Prop} : ∀ {l : List α} {m : List β} {i : Nat} {b : β}, Paired R l m → m[i]? = some b → ∃ a, l[i]? = some a ∧ R a b
  | _, _, _, _, .nil, h => by simp at h
  | _, _, 0, b, .cons r t, h => by
    have e := Option.some.inj h
    subst e
    exact ⟨_, rfl, r⟩
  | _, _, i + 1, b, .cons r t, h => paired_get (i := i) t h
theorem paired_len {α β : Type} {R : α → β → Prop} : ∀ {l : List α} {m : List β}, Paired R l m → l.length = m.length
  | _, _, .nil => rfl
  | _, _, .cons _ t => by rw [List.length_cons, List.length_cons, paired_len t]
theorem atI_n {xs : List V} {j : Nat} {v : V} (h : xs[j]? = some v) : atI xs ((j : Nat) : Int) = some v := atI_nat h
theorem inV_n (x : Nat) : ∀ xs : List Nat, inV (vn x) (tn xs) = decide (x ∈ xs)
  | [] => by
    show false = decide (x ∈ [])
    simp
  | a :: r => by
    have ih := inV_n x r
    show (eqV (vn a) (vn x) || inV (vn x) (tn r)) = decide (x ∈ a :: r)
    rw [ih]
    have e : eqV (vn a) (vn x) = decide (x = a) := by
      show decide ((a : Int) = (x : Int)) = decide (x = a)
      by_cases h : x = a
      · subst h
        simp
      · rw [decide_eq_false h]
        exact decide_eq_false (p := (a : Int) = (x : Int)) fun q => h (by omega)
    rw [e]
    by_cases h : x = a <;> by_cases h2 : x ∈ r <;> simp [h, h2]
theorem flat_n (xs : List Nat) : (tn xs).all flatV = true := by
  rw [List.all_eq_true]
  intro v hv
  obtain ⟨n, _, e⟩ := List.mem_map.mp hv
  rw [← e]
  rfl
end Wk
/-! Rules that the layer lacks: sorted of tuples of numbers at any length, of a tuple, of a dict with tuple keys. -/
namespace Wk
open PySem PyProof.Rows L2 SrtO
abbrev cz (ns : List Nat) : List Int := ns.map fun n : Nat => (n : Int)
section
variable {prog : Program} {w : World} {A : Around} {s : Shared} {E : Value → Shared → Prop}
theorem ints_cons {us : List Value} {j : Int} {js : List Int} (h : IntsAre us (j :: js)) : ∃ t vs, us = Value.int j t :: vs ∧ IntsAre vs js := by
  cases h with
  | cons _ tk rest => exact ⟨tk, _, rfl, rest⟩
theorem lex_n {Q : Bool → Shared → Prop} {b : Bool} {xs : List Value} {js : List Int} (hx : IntsAre xs js) : ∀ {ys : List Value} {ns ms : List Nat} (i : Nat), js = cz ns → IntsAre ys (cz ms) → ns.length = ms.length →
    Q (lexB ns ms) s → PySem.W.KatLex prog w A b false Q (xs.zip ys) i s := by
  induction hx with
  | nil =>
    intro ys ns ms i e hy hl h
    cases ns with
    | nil =>
      cases ms with
      | nil => exact PySem.W.kat_nil h
      | cons q ms => simp at hl
    | cons p ns => simp at e
  | @cons p t xs js hx ih =>
    intro ys ns ms i e hy hl h
    cases ns with
    | nil => simp at e
    | cons n ns =>
      cases ms with
      | nil => simp at hl
      | cons m ms =>
        have e' : p = (n : Int) ∧ js = cz ns := by simpa using e
        obtain ⟨rfl, e'⟩ := e'
        have hl' : ns.length = ms.length := Nat.succ.inj hl
        obtain ⟨u, zs, rfl, hy2⟩ := ints_cons (show IntsAre ys ((m : Int) :: cz ms) from hy)
        · show PySem.W.KatLex prog w A b false Q ((Value.int (n : Int) t, Value.int (m : Int) u) :: xs.zip zs) i s
          apply PySem.W.kat_cons
          apply wpAny_eqBool_int
          by_cases e : n = m
          · subst e
            rw [beq_self_eq_true]
            have d : lexB (n :: ns) (n :: ms) = lexB ns ms := if_pos rfl
            rw [d] at h
            exact PySem.W.kat_yes (ih (i + 1) e' hy2 hl' h)
          · rw [show ((n : Int) == (m : Int)) = false from beq_eq_false_iff_ne.mpr fun q => e (by omega)]
            refine PySem.W.kat_no (TS.oneLt_ints _ ?_)
            have d : lexB (n :: ns) (m :: ms) = decide (n < m) := if_neg e
            rw [d] at h
            have d2 : decide ((n : Int) < (m : Int)) = decide (n < m) := decide_eq_decide.mpr (by omega)
            rw [d2]
            exact h
theorem swo_lexB (k : Value → List Nat) : Swo fun v u => lexB (k v) (k u) := ⟨fun x y h => lexB_asym h, fun x y z h1 h2 => lexB_tr h2 h1⟩
/-- the items: tuples of d numbers -/
def TupN (h : Heap) (d : Nat) (k : Value → List Nat) (vs : List Value) : Prop := ∀ v ∈ vs, TS.TupInts h v (cz (k v)) ∧ (k v).length = d
theorem TupN.keeps {h h' : Heap} {d : Nat} {k : Value → List Nat} {vs : List Value} (x : TupN h d k vs) (kp : ∀ b o, h.get? b = some o → o.cls = .type "tuple" → h'.get? b = some o) : TupN h' d k vs := fun v hv => ⟨(x v hv).1.keeps kp, (x v hv).2⟩
theorem firsts_n {h : Heap} {d : Nat} {k : Value → List Nat} (hd : 1 ≤ d) : ∀ vs : List Value, TupN h d k vs → ∃ fs, PySem.W.KatTups h vs fs ∧ fs.length = vs.length ∧ ∀ f, f ∈ fs → ∃ n t, f = Value.int n t
  | [], _ => ⟨[], .nil, rfl, fun f hf => (List.not_mem_nil hf).elim⟩
  | v :: vs, x => by
    obtain ⟨fs, kt, hl, hi⟩ := firsts_n hd vs fun u hu => x u (List.mem_cons_of_mem _ hu)
    obtain ⟨⟨a, xs, rfl, ⟨o, ho, hc, n, hdt⟩, i⟩, hn⟩ := x v (List.mem_cons_self ..)
    have lx : xs.toList.length = d := by
      rw [i.length, List.length_map]
      exact hn
    obtain ⟨y, ys, e⟩ := List.exists_cons_of_length_pos (l := xs.toList) (by omega)
    obtain ⟨m, t, hy⟩ := i.all y (e ▸ List.mem_cons_self)
    refine ⟨y :: fs, PySem.W.KatTups.cons ho hc hdt ?_ kt, by simp [hl], ?_⟩
    · have head0 := congrArg (fun z : List Value => z[0]?) e
      simpa using head0
    · intro f hf
      cases hf with
      | head => exact ⟨m, t, hy⟩
      | tail _ z => exact hi f z
theorem tups_sortable {a : Addr} {vs : List Value} {k : Value → List Nat} {d : Nat} (hd : 1 ≤ d) (h2 : 2 ≤ vs.length) (x : TupN s.heap d k vs) (ha : ∀ o, s.heap.get? a = some o → o.cls ≠ .type "tuple") :
    SortableO prog w A s a vs fun v u => lexB (k v) (k u) := by
  intro h' keep
  have x' : TupN h' d k vs := x.keeps fun b o e c => keep b o (fun z => by subst z; exact ha o e c) e
  obtain ⟨fs, kt, hl, hi⟩ := firsts_n hd vs x'
  refine ⟨tuples' true, fun Q E hq => ?_, ?_⟩
  · refine PySem.W.kat_kind (T := .type "int") kt (by omega) (fun f hf => ?_) (by rfl) ?_
    · obtain ⟨c, tk, rfl⟩ := hi f hf
      exact .of_pure rfl
    · rw [show (Value.type "int" != Value.type "tuple") = true by decide +kernel]
      exact hq
  · intro p q hm hm'
    obtain ⟨⟨a1, xs, e1, ⟨o1, t1, hc1, n1, g1⟩, i⟩, l1⟩ := x' _ hm
    obtain ⟨⟨a2, ys, e2, ⟨o2, t2, hc2, n2, g2⟩, i'⟩, l2⟩ := x' _ hm'
    show wpAny (model prog w) A (keyLt' (tuples' true) p.1 q.1) (fun r s' => s' = ({ s with heap := h' } : Shared) ∧ r = lexB (k p.1) (k q.1)) (fun _ _ => False) ({ s with heap := h' } : Shared)
    generalize k p.1 = as at i l1 ⊢
    generalize k q.1 = bs at i' l2 ⊢
    rw [e1, e2]
    apply PySem.W.kat_lt t1 g1 t2 g2
    have q1 := i.length
    have q2 := i'.length
    rw [Array.length_toList, List.length_map] at q1 q2
    rw [show decide (xs.size < ys.size) = false from decide_eq_false fun z => by omega]
    exact lex_n i 0 rfl i' (by omega) ⟨rfl, rfl⟩
/-- sorted(p), told by what p's items are when they are collected -/
theorem sorted_ordC {p : Addr} {its : List Value} {lt : Value → Value → Bool} {R : Value → Shared → Prop} (O : Swo lt) (few : its.length ≤ sizeLine)
    (hcol : ∀ (S : List Value → Shared → Prop), (∀ g tk, (∀ b o, s.heap.get? b = some o → g.get? b = some o) → S its { s with heap := g, toks := tk }) → wpAny (model prog w) A.in1 (collect (.ref p)) S (fun _ _ => False) s)
    (hS : 2 ≤ its.length → ∀ (g : Heap) (tk : Nat) (c : Addr), g.get? c = some (seqObj "list" its.toArray 0) → (∀ b o, s.heap.get? b = some o → b ≠ c ∧ g.get? b = some o) → SortableO prog w A.in1.in1 { s with heap := g, toks := tk } c its lt)
    (fin : ∀ (g1 g2 : Heap) (tk : Nat) (d : Addr) (out : List Value), Srtd lt out → Stb lt out its → (∀ b o, s.heap.get? b = some o → g1.get? b = some o) → (∀ b o, g1.get? b = some o → g2.get? b = some o) → g1.objs.size ≤ d →
      (∃ n, g2.get? d = some (seqObj "list" out.toArray n)) → R (.ref d) { s with heap := g2, toks := tk }) : wpAny (model prog w) A (call (.builtin "sorted") [.ref p]) R E s := by
  apply Calls.call_function_entry kind_sorted plain_sorted entry_sorted (args_sorted1 _)
  unfold Builtin.«sorted»
  apply wpAny_bind (m := checkCount "sorted" 1 1 _)
  apply wpAny_pure
  refine wpAny_bind (wpAny_mono (hcol _ fun g tk kept => ?_) (fun _ _ z => z) fun _ _ z => z.elim)
  refine wpAny_bind (wpAny_newList ?_ few)
  obtain ⟨new, hnew⟩ : ∃ new, new = g.push (seqObj "list" its.toArray 0) := ⟨_, rfl⟩
  rw [← hnew]
  have there : new.get? g.objs.size = some (seqObj "list" its.toArray 0) := by
    rw [hnew]
    exact Heap.get?_push_size g rfl
  have old : ∀ b o, g.get? b = some o → new.get? b = some o := fun b o e => by
    rw [hnew]
    exact Heap.get?_push_of_some (h := g) _ e
  have room : new.objs.size = g.objs.size + 1 := by
    rw [hnew]
    exact size_push' ..
  show wpAny _ _ _ _ _ { s with heap := new, toks := tk }
  have sorts : 2 ≤ its.length → SortableO prog w A.in1.in1 { s with heap := new, toks := tk } g.objs.size its lt := fun two => hS two new tk _ there fun b o e => ⟨Nat.ne_of_lt (Heap.lt_size (kept b o e)), old b o (kept b o e)⟩
  refine wpAny_bind (wpAny_holding (wpAny_call_entry slot_list_sort ⟨_, there, rfl⟩ entry_list_sort (list_sort_ord (s := { s with heap := new, toks := tk }) O there few sorts fun out so st => ⟨_, rfl, ?_⟩) (args_list_sort _)))
  apply wpAny_pure
  refine ⟨_, rfl, fin g _ tk _ out so st kept (fun b o e => ?_) (Nat.le_refl _) (sortedHeap_at there)⟩
  have lo : b < g.objs.size := Heap.lt_size e
  rw [sortedHeap_old (Nat.ne_of_lt lo) (by rw [room]; exact Nat.lt_succ_of_lt lo)]
  exact old b o e
/-- a tuple or a list is collected -/
theorem col_seq {p : Addr} {T : String} {its : List Value} {o : Obj} {n : Nat} (hT : T = "list" ∨ T = "tuple") (ho : s.heap.get? p = some o) (hc : o.cls = .type T) (hd : o.data = .seq its.toArray n) (few : its.length ≤ sizeLine) (S : List Value → Shared → Prop)
    (k : ∀ g tk, (∀ b o, s.heap.get? b = some o → g.get? b = some o) → S its { s with heap := g, toks := tk }) : wpAny (model prog w) A (collect (.ref p)) S E s :=
  wpAny_collect_seq p hT ho hc hd (fun g kept => k g s.toks kept) few
theorem col_tup {p : Addr} {its : List Value} (h : IsTup s.heap p its.toArray) (few : its.length ≤ sizeLine) (S : List Value → Shared → Prop)
    (k : ∀ g tk, (∀ b o, s.heap.get? b = some o → g.get? b = some o) → S its { s with heap := g, toks := tk }) : wpAny (model prog w) A (collect (.ref p)) S E s := by
  obtain ⟨o, ho, hc, n, hd⟩ := h
  exact col_seq (.inr rfl) ho hc hd few S k
theorem col_list {p : Addr} {its : List Value} (h : s.heap.IsList p its.toArray) (few : its.length ≤ sizeLine) (S : List Value → Shared → Prop)
    (k : ∀ g tk, (∀ b o, s.heap.get? b = some o → g.get? b = some o) → S its { s with heap := g, toks := tk }) : wpAny (model prog w) A (collect (.ref p)) S E s := by
  obtain ⟨o, ho, hc, n, hd⟩ := h
  exact col_seq (.inl rfl) ho hc hd few S k
end
/-! ### as rules -/
/-- sorted(t), t a tuple of ints -/
def rSortedIT : List V → Hp → VK → Prop := fun vs H Q => ∃ (a : Addr) (ns : List Int), vs = [V.ref a] ∧ H a = some (.tup (ns.map V.int)) ∧ ∀ (ms : List Int) (p : Addr), ms.Perm ns → ms.Pairwise (· ≤ ·) → H p = none → Q (.ref p) (upd H p (.lst (ms.map V.int)))
/-- the numbers of a tuple -/
def numV : V → Nat
  | .int i => i.toNat
  | _ => 0
def keyAt (H : Hp) : V → List Nat
  | .ref a => match H a with
    | some (.tup vs) => vs.map numV
    | _ => []
  | _ => []
theorem keyAt_tu {H : Hp} {v : V} {ns : List Nat} (h : Tu H v ns) : keyAt H v = ns := by
  obtain ⟨a, e, h⟩ := h
  subst e
  show (match H a with | some (.tup vs) => vs.map numV | _ => []) = ns
  rw [h]
  show (tn ns).map numV = ns
  rw [List.map_map]
  have : ns.map (numV ∘ vn) = ns.map id := List.map_congr_left fun x _ => by simp [numV]
  rw [this, List.map_id]
theorem paired_keys {H : Hp} : ∀ {xs : List V} {ws : List (List Nat)}, Paired (Tu H) xs ws → ws = xs.map (keyAt H)
  | _, _, .nil => rfl
  | _, _, .cons h t => by rw [List.map_cons, keyAt_tu h, paired_keys t]
theorem keys_paired {H : Hp} : ∀ {xs : List V}, (∀ x ∈ xs, Tu H x (keyAt H x)) → Paired (Tu H) xs (xs.map (keyAt H))
  | [], _ => .nil
  | x :: xs, h => .cons (h x List.mem_cons_self) (keys_paired fun y hy => h y (List.mem_cons_of_mem _ hy))
theorem paired_mem {α β : Type} {R : α → β → Prop} : ∀ {l : List α} {m : List β}, Paired R l m → ∀ a ∈ l, ∃ b ∈ m, R a b
  | _, _, .nil, a, h => absurd h (by simp)
  | _, _, .cons (b := b) r t, a, h => by
    cases h with
    | head => exact ⟨_, List.mem_cons_self, r⟩
    | tail _ h =>
      obtain ⟨c, h1, h2⟩ := paired_mem t a h
      exact ⟨c, List.mem_cons_of_mem _ h1, h2⟩
theorem paired_mem2 {α β : Type} {R : α → β → Prop} : ∀ {l : List α} {m : List β}, Paired R l m → ∀ b ∈ m, ∃ a ∈ l, R a b
  | _, _, .nil, a, h => absurd h (by simp)
  | _, _, .cons r t, a, h => by
    cases h with
    | head => exact ⟨_, List.mem_cons_self, r⟩
    | tail _ h =>
      obtain ⟨c, h1, h2⟩ := paired_mem2 t a h
      exact ⟨c, List.mem_cons_of_mem _ h1, h2⟩
/-- sorted(xs), a list of tuples of d numbers -/
def rSortedTu (K : PySem.W.Frag) : List V → Hp → VK → Prop := fun vs H Q => ∃ (a : Addr) (xs : List V) (ws : List (List Nat)) (d : Nat), vs = [V.ref a] ∧ SqL K H a xs ∧ Paired (Tu H) xs ws ∧ (2 ≤ ws.length → 1 ≤ d) ∧ (∀ w ∈ ws, w.length = d) ∧
  ∀ (ys : List V) (us : List (List Nat)) (p : Addr), Paired (Tu H) ys us → us.Perm ws → us.Pairwise (fun a b => lexB b a = false) → H p = none → Q (.ref p) (upd H p (.lst ys))
abbrev nk (k : List Nat) : List Key := k.map fun n : Nat => Sum.inl (n : Int)
theorem nk_kV (k : List Nat) : (nk k).map kV = tn k := by
  rw [List.map_map]
  rfl
/-- sorted(d), a dict whose keys are tuples of d numbers: any order is told -/
def rSortedDT : List V → Hp → VK → Prop := fun vs H Q => ∃ (a : Addr) (kvs : List (List Key × V)) (ws : List (List Nat)) (d : Nat), vs = [V.ref a] ∧ H a = some (.dT kvs) ∧ kvs.map (·.1) = ws.map nk ∧ 1 ≤ d ∧ (∀ w ∈ ws, w.length = d) ∧
  ∀ (ys : List V) (us : List (List Nat)) (p : Addr), Paired (Tu H) ys us → us.Perm ws → H p = none → Q (.ref p) (upd H p (.lst ys))
section
variable {X : Cx} {pins : List (Addr × Obj)} {s : Shared} {σ : L2.St} {H : Hp}
theorem cr_sortedIT : CallR X (.builtin "sorted") rSortedIT := by
  rintro pins s σ H vs us Q I r ⟨a, ns, rfl, hs, q⟩
  obtain ⟨its, rv, hl, hz⟩ := I.tuple (SqT.of hs)
  rw [Vals.ref1 r]
  have hi := rv.ints
  refine sorted_ordC swo_int (by rw [← rv.length]; exact hz) (fun R k => col_tup hl (by rw [← rv.length]; exact hz) R k)
    (fun h2 h₁ tk a' _ _ => ints_sortable (s := { s with heap := h₁, toks := tk }) hi h2) fun h1 h' tk d out g1 g2 kp1 kp2 hd hn => ?_
  obtain ⟨k1, k2, k3⟩ := ints_out hi g1 g2
  obtain ⟨n, hn⟩ := hn
  have I1 : Inv X pins σ H { s with heap := h1, toks := tk } := I.kept kp1
  have hlen : ((out.map iv).map V.int).length ≤ sizeLine := by
    rw [List.length_map] at hz ⊢
    rw [k2.length_eq]
    exact hz
  exact ⟨.ref d, upd H d (.lst ((out.map iv).map V.int)), I1.laid (t' := tk) kp2 hd ⟨hlen, out, n, vals_of_ints k1, hn⟩, rfl, q _ _ k2 k3 (I1.hok.fresh hd)⟩
theorem tupN_of {its : List Value} {ws : List (List Nat)} {d : Nat} (I : Inv X pins σ H s) (e2 : ∀ u ∈ its, ∃ a, u = Value.ref a) (hp : Paired (Tu H) (its.map backV) ws) (hd : ∀ w ∈ ws, w.length = d) :
    TupN s.heap d (fun u => keyAt H (backV u)) its := fun v hv => by
  obtain ⟨t, rfl⟩ := e2 v hv
  obtain ⟨w, hw, ⟨t', e, ht⟩⟩ := paired_mem hp (V.ref t) (List.mem_map.mpr ⟨_, hv, rfl⟩)
  cases e
  have ek : keyAt H (V.ref t) = w := keyAt_tu ⟨t, rfl, ht⟩
  refine ⟨?_, by show (keyAt H (V.ref t)).length = d; rw [ek]; exact hd w hw⟩
  show TS.TupInts s.heap (.ref t) (cz (keyAt H (V.ref t)))
  rw [ek]
  obtain ⟨its2, r2, p2, _⟩ := I.tuple (SqT.of ht)
  refine ⟨t, its2.toArray, rfl, p2, ?_⟩
  rw [List.toList_toArray]
  have r3 : Vals ((cz w).map V.int) its2 := by
    rw [List.map_map]
    exact r2
  exact r3.ints
theorem sorted_tail {its out : List Value} {ws : List (List Nat)} (I : Inv X pins σ H s) (e2 : ∀ u ∈ its, ∃ a, u = Value.ref a) (hp : Paired (Tu H) (its.map backV) ws) (hz : its.length ≤ sizeLine)
    (g1 : Srtd (fun v u => lexB (keyAt H (backV v)) (keyAt H (backV u))) out) (g2 : Stb (fun v u => lexB (keyAt H (backV v)) (keyAt H (backV u))) out its) :
    ∃ us, Paired (Tu H) (out.map backV) us ∧ us.Perm ws ∧ us.Pairwise (fun a b => lexB b a = false) ∧ Vals (out.map backV) out ∧ (out.map backV).length ≤ sizeLine := by
  have h3 : ∀ u ∈ out, ∃ a, u = Value.ref a := fun u hu => e2 u (g2.perm.mem_iff.mp hu)
  have pm : (out.map backV).Perm (its.map backV) := g2.perm.map backV
  have pk : Paired (Tu H) (out.map backV) ((out.map backV).map (keyAt H)) := keys_paired fun x hx => by
    obtain ⟨w, hw, t⟩ := paired_mem hp x (pm.mem_iff.mp hx)
    rw [keyAt_tu t]
    exact t
  refine ⟨_, pk, ?_, ?_, vals_back h3, by rw [List.length_map, g2.len]; exact hz⟩
  · rw [paired_keys hp]
    exact pm.map (keyAt H)
  · rw [List.map_map]
    exact List.pairwise_map.mpr g1
theorem cr_sortedTu (hc : X.calm = true) : CallR X (.builtin "sorted") (rSortedTu X.K) := by
  rintro pins s σ H vs us Q I r ⟨a, xs, ws, d, rfl, hs, hp, hd, hl, q⟩
  obtain ⟨its, rv, hL, hz⟩ := I.list hs
  rw [Vals.ref1 r]
  obtain ⟨e1, e2⟩ := refs_back rv fun x hx => let ⟨_, _, t, e, _⟩ := paired_mem hp x hx; ⟨t, e⟩
  subst e1
  have hz' : its.length ≤ sizeLine := by
    rw [List.length_map] at hz
    exact hz
  have hlw : ws.length = its.length := by
    rw [← paired_len hp, List.length_map]
  refine sorted_ordC (swo_lexB fun u => keyAt H (backV u)) hz' (fun R k => col_list hL.isList hz' R k) (fun h2 h₁ tk a' ha kp => ?_) fun h1 h' tk dd out g1 g2 kp1 kp2 hd' hn => ?_
  · refine tups_sortable (s := { s with heap := h₁, toks := tk }) (hd (by omega)) h2 ((tupN_of I e2 hp hl).keeps fun b o e _ => (kp b o e).2) fun o e => ?_
    have e' : some o = some (seqObj "list" its.toArray 0) := e.symm.trans ha
    cases e'
    exact fun c => by
      have c' := Value.type.inj c
      revert c'
      decide
  · obtain ⟨us, p1, p2, p3, p4, p5⟩ := sorted_tail I e2 hp hz' g1 g2
    obtain ⟨n, hn⟩ := hn
    have I1 : Inv X pins σ H { s with heap := h1, toks := tk } := I.kept kp1
    exact ⟨.ref dd, upd H dd (.lst (out.map backV)), I1.laid (t' := tk) kp2 hd' ⟨p5, out, n, p4, hn⟩, rfl, q _ us dd p1 p2 p3 (I1.hok.fresh hd')⟩
theorem cr_sortedDT (hc : X.calm = true) : CallR X (.builtin "sorted") rSortedDT := by
  rintro pins s σ H vs us Q I r ⟨a, kvs, ws, d, rfl, hs, hk, hd, hl, q⟩
  rw [Vals.ref1 r]
  obtain ⟨z, lo, ks, pr, o, es, ep, ho, hx, hdt, he, hn⟩ := (show ObjOk X.prog X.w H s.heap a (.dT kvs) from I.hok a _ hs)
  have many : es.size = ks.length := size_of_entries he
  have many2 : kvs.length = ks.length := Paired.length pr
  have hz' : (ks.map fun x => Value.ref x.2.1).length ≤ sizeLine := by
    rw [List.length_map]
    omega
  have e2 : ∀ u ∈ (ks.map fun x => Value.ref x.2.1), ∃ a, u = Value.ref a := fun u hu => by
    obtain ⟨x, _, e⟩ := List.mem_map.mp hu
    exact ⟨_, e.symm⟩
  have hp : Paired (Tu H) ((ks.map fun x => Value.ref x.2.1).map backV) ws := by
    rw [List.map_map]
    have key : ∀ {kvs : List (List Key × V)} {ks : List (List Key × Addr × Value)} {ws : List (List Nat)}, Paired (fun (p : List Key × V) (q : List Key × Addr × Value) => p.1 = q.1 ∧ H q.2.1 = some (.tup (p.1.map kV)) ∧ RelV p.2 q.2.2) kvs ks →
        kvs.map (·.1) = ws.map nk → Paired (Tu H) (ks.map (backV ∘ fun x => Value.ref x.2.1)) ws := by
      intro kvs ks ws pr
      induction pr generalizing ws with
      | nil =>
        intro hk
        cases ws with
        | nil => exact .nil
        | cons w r => simp at hk
      | @cons p q kvs ks h t ih =>
        intro hk
        cases ws with
        | nil => simp at hk
        | cons w r =>
          have hk' : p.1 = nk w ∧ kvs.map (·.1) = r.map nk := by simpa using hk
          refine .cons ⟨q.2.1, rfl, ?_⟩ (ih hk'.2)
          rw [h.2.1, hk'.1, nk_kV]
    exact key pr hk
  refine sorted_ordC (swo_lexB fun u => keyAt H (backV u)) hz' (fun R k => ?_)
    (fun h2 h₁ tk a' ha kp => ?_) fun h1 h' tk dd out g1 g2 kp1 kp2 hd' hn => ?_
  · refine PySem.W.kdu_collect (A := X.A.in1) (kdl_raw lo hx hdt) (I.ok.hd hc) ho (by omega) fun h' tk acc kp it => ?_
    have ea : acc.toList = ks.map fun x => Value.ref x.2.1 := by
      have hl : acc.toList.length = ks.length := by rw [Array.length_toList, it.1]; exact many
      apply List.ext_getElem?
      intro j
      rw [List.getElem?_map]
      cases hj : acc.toList[j]? with
      | none =>
        have out1 : acc.toList.length ≤ j := List.getElem?_eq_none_iff.mp hj
        rw [List.getElem?_eq_none (l := ks) (by omega), Option.map_none]
      | some v =>
        have hj2 : acc[j]? = some v := Array.getElem?_toList ▸ hj
        obtain ⟨en, hen, hv⟩ := it.2 j v hj2
        have at1 : some en = (ks[j]?).map (entryOfKey (tupleKind (mixKind X.prog X.w))) := hen.symm.trans (entry_at he j)
        obtain ⟨b, hb, e3⟩ := Option.map_eq_some_iff.mp at1.symm
        rw [hb, Option.map_some, hv, ← e3]
        rfl
    rw [ea]
    exact k h' tk kp
  · refine tups_sortable (s := { s with heap := h₁, toks := tk }) hd h2 ((tupN_of I e2 hp hl).keeps fun b o e _ => (kp b o e).2) fun o e => ?_
    have e' : some o = some (seqObj "list" (ks.map fun x => Value.ref x.2.1).toArray 0) := e.symm.trans ha
    cases e'
    exact fun c => by
      have c' := Value.type.inj c
      revert c'
      decide
  · obtain ⟨us, p1, p2, p3, p4, p5⟩ := sorted_tail I e2 hp hz' g1 g2
    obtain ⟨n, hn⟩ := hn
    have I1 : Inv X pins σ H { s with heap := h1, toks := tk } := I.kept kp1
    exact ⟨.ref dd, upd H dd (.lst (out.map backV)), I1.laid (t' := tk) kp2 hd' ⟨p5, out, n, p4, hn⟩, rfl, q _ us dd p1 p2 (I1.hok.fresh hd')⟩
end
end Wk
/-! Rules that the layer lacks: {tuple: value}, enumerate(tuple). -/
namespace Wk
open PySem PyProof.Rows L2
def tDisp1T (tk tv : TE) : TE := fun σ H Q => ∀ p, H p = none → tk σ (upd H p (.dT [])) fun x H1 => tv σ H1 fun y H2 => ∃ (b : Addr) (k : List Key), x = .ref b ∧ H2 b = some (.tup (k.map kV)) ∧ H2 p = some (.dT []) ∧ Q (.ref p) (upd H2 p (.dT [(k, y)]))
theorem pe_disp1T {X : Cx} {pos : Pos} {ke ve : Expr} {tk tv : TE} (hu : X.A.units + 1 < cLine) (hk : PE X ke tk) (hv : PE X ve tv) : PE X (.Dict [some ke] [ve] pos) (tDisp1T tk tv) := by
  constructor
  intro pins s σ H Q I q
  have free := I.fresh
  have I1 := I.laid (a := s.heap.objs.size) (o := .dT []) (h' := s.heap.push { cls := .type "dict", data := .dict #[] }) (t' := s.toks) (fun _ _ q => Heap.get?_push_of_some _ q) (Nat.le_refl _) (dt_empty s.heap I.big)
  refine wpAny_Dict_any (by rfl) (by rfl) (by simp) (by simp) (pairTrees_cons_walk (thn (hk.run pins _ σ _ _ I1 (q _ free)) fun u s1 ⟨x, H1, I2, rx, q1⟩ => thn (hv.run pins s1 σ H1 _ I2 q1) fun v s2 ⟨y, H2, I3, ry, b, k, ex, hb, hp, q2⟩ => pairTrees_nil_walk ?_))
  subst ex
  obtain rfl : u = Value.ref b := rx
  obtain ⟨z, hd, xs, rel, dd⟩ := dt_of I3.hok hp
  cases rel
  unfold storeAll
  rw [List.forIn_cons]
  refine wpAny_bind (wpAny_bind (wpAny_dictSet_heap (hsz := Nat.zero_le _) (show (tupleKind (mixKind X.prog X.w)).room X.A from Nat.lt_of_succ_lt hu) (key_of I3.hok hb) dd fun h' dd' hs => wpAny_pure ?_))
  show wpAny _ _ (forIn ([] : List (Value × Value)) PUnit.unit _) _ _ _
  rw [List.forIn_nil]
  refine wpAny_pure ⟨.ref s.heap.objs.size, _, ?_, rfl, q2⟩
  obtain ⟨ob, es, ep, hq, h2, h3, h4, _, h5⟩ := dd'
  have rel2 : KT H2 (putK ([] : List (List Key × V)) k y) (storedH [] k b v) := KT.put .nil k hb ry
  refine d_write I3 (by rw [hp]; exact True.intro) hs ⟨ob, hq⟩ ⟨by show 1 ≤ sizeLine; decide, hd, _, rel2.keeps fun c ys ec => ?_, ob, es, ep, hq, h2, h3, h4, h5⟩
  rw [upd_ne (ne_of ec hp (fun z => nomatch z))]
  exact ec
/-! ### enumerate(tuple): the layer has it for lists alone; the road is the one that the library goes there -/
abbrev oTi (src : Addr) : Obj := { cls := .type "tuple_iterator", data := .fields #[.ref src, .int 0 0] }
abbrev oEn (ti : Addr) : Obj := { cls := .type "enumerate", data := .fields #[.none, .bool false, .ref ti, rawInt 0, .none, .none] }
open Sem (wp) in
open AutoSeq1 (wpAny_loadPart') in
theorem newT (src : Addr) (its : Array Value) (n : Nat) (dd : Option Addr) (sl : Array (Option Value)) : Meets (Builtin.«enumerate.__new__» ⟨[.type "enumerate", .ref src], []⟩) (fun _ R s =>
    s.heap.get? src = some { cls := .type "tuple", dict := dd, data := .seq its n, slots := sl } ∧ R (.ok (.ret (.ref (s.heap.push (oTi src)).objs.size))) { s with heap := (s.heap.push (oTi src)).push (oEn s.heap.objs.size) }) := by
  apply Meets.of_wp
  rintro prog w A R ⟨hp, gl, dy, tk, os⟩ ⟨hsrc, h⟩
  have is_sub := sub_enumerate
  have tup : Heap.IsTuple (Shared.heap ⟨hp, gl, dy, tk, os⟩) src its := ⟨_, hsrc, rfl, n, rfl⟩
  wp_walk using wpAny_loadPart' hsrc
  apply wpAny_stack_any
  intro stk
  apply wpAny_pure
  split
  · rename_i cl _ _ _ _ _
    generalize (cl == Value.type "enumerate") = same
    cases same <;> (wp_walk using wpAny_loadPart' hsrc, wpAny_pyIter_tuple tup; exact ⟨_, rfl, h⟩)
  · wp_walk using wpAny_loadPart' hsrc, wpAny_pyIter_tuple tup
    exact ⟨_, rfl, h⟩
section
variable {prog : Program} {w : World} {A : Around} {s : Shared} {E : Value → Shared → Prop}
theorem call_enT {src : Addr} {its : Array Value} {R : Value → Shared → Prop} (tup : s.heap.IsTuple src its)
    (fin : ∀ g, IsEnum g (s.heap.objs.size + 1) s.heap.objs.size 0 .none → g.IsTupleIter s.heap.objs.size src 0 → g.objs.size = s.heap.objs.size + 2 → (∀ b o, s.heap.get? b = some o → g.get? b = some o) → R (.ref (s.heap.objs.size + 1)) { s with heap := g }) :
    wpAny (model prog w) A (call (.type "enumerate") [.ref src]) R E s := by
  obtain ⟨⟨cl, dd, dt, sl⟩, at0, isT, n, seq⟩ := tup
  obtain rfl : cl = .type "tuple" := isT
  obtain rfl : dt = .seq its n := seq
  apply callType_new F.called_enumerate (by decide) (F.typeCall_enumerate_1 _) (F.newCall_enumerate_1 _) (fun ob => F.args_object_init_2 ob _) F.entry_enumerate_new (newT src its n dd sl)
  have two : (s.heap.push (oTi src)).objs.size = s.heap.objs.size + 1 := Heap.size_push ..
  have kept : ∀ b o, s.heap.get? b = some o → ((s.heap.push (oTi src)).push (oEn s.heap.objs.size)).get? b = some o := fun b o x => Heap.get?_push_of_some _ (Heap.get?_push_of_some _ x)
  have en : IsEnum ((s.heap.push (oTi src)).push (oEn s.heap.objs.size)) (s.heap.objs.size + 1) s.heap.objs.size 0 .none := by
    have at1 := Heap.get?_push_size (s.heap.push (oTi src)) (o := oEn s.heap.objs.size) rfl
    rw [two] at at1
    exact at1
  refine ⟨at0, ?_⟩
  rw [two]
  exact ⟨⟨_, en, rfl⟩, fin _ en ⟨_, Heap.get?_push_of_some _ (Heap.get?_push_size _ rfl), rfl, rfl⟩ (by rw [Heap.size_push, two]) kept⟩
end
/-- the tuple at a as it stands at each turn, each item in a new pair -/
def IteT (K : PySem.W.Frag) (a : Addr) : It :=
  ⟨fun i H => ∃ (xs : List V) (x : V), SqT K H a xs ∧ xs[i]? = some x, fun i H v H' => ∃ T x, v = .ref T ∧ H T = none ∧ H' = upd H T (.tup [.int (i : Nat), x]) ∧ ∀ xs, SqT K H a xs → xs[i]? = some x, fun i H => ∃ xs : List V, SqT K H a xs ∧ xs.length ≤ i⟩
theorem pair_mem {en ti b : Addr} (h : b ∈ [en, ti]) : b = en ∨ b = ti := by
  cases h with
  | head => exact .inl rfl
  | tail _ h => exact .inr (List.mem_singleton.mp h)
theorem turn_enT {P : Program} {w : World} {K : PySem.W.Frag} {elts : List Expr} {kk : Nat} {tpos : Pos} (src en ti : Addr) :
    Turn P w K (.Tuple elts kk tpos) (IteT K src) [en, ti] en (fun i g => (∃ was, IsEnum g en ti ((i : Nat) : Int) was) ∧ g.IsTupleIter ti src i ∧ en ≠ ti) where
  mem := List.mem_cons_self
  obj := fun i g st b hb => by
    obtain ⟨⟨was, ie⟩, ⟨o, ho, _, dat⟩, _⟩ := st
    rcases pair_mem hb with z | z <;> subst z
    · exact ⟨_, ie, fun v => nofun⟩
    · exact ⟨o, ho, fun v q => by
        rw [dat] at q
        cases q⟩
  keep := fun i g g' ⟨⟨was, ie⟩, iti, ne⟩ k => ⟨⟨was, k en List.mem_cons_self _ ie⟩, iti.at fun o => k ti (List.mem_cons_of_mem _ List.mem_cons_self) o, ne⟩
  item := by
    rintro X hP hw hK hc i pins s σ H E I hf ⟨⟨was, ie⟩, iti, ne⟩ ⟨xs, x, hq, hx⟩
    subst hP hw hK
    obtain ⟨its, rv, tup, many⟩ := I.tuple hq
    obtain ⟨u, hu, is_u⟩ := rv.get hx
    have len : en < s.heap.objs.size := Heap.lt_size ie
    have lti : ti < s.heap.objs.size := let ⟨_, q, _⟩ := iti; Heap.lt_size q
    have tup' : s.heap.IsTuple src its.toArray := tup
    have no : ∀ {c d : String}, c ≠ d → Value.type c ≠ Value.type d := fun nq z => nq (Value.type.inj z)
    have nti : src ≠ ti := fun z => by
      subst z
      obtain ⟨o1, q1, c1, _⟩ := iti
      obtain ⟨o2, q2, c2, _⟩ := tup'
      cases q1.symm.trans q2
      exact no (by decide) (c1.symm.trans c2)
    have nen : src ≠ en := fun z => by
      subst z
      obtain ⟨o2, q2, c2, _⟩ := tup'
      cases (show s.heap.get? src = some _ from ie).symm.trans q2
      exact no (by decide) c2
    have here : i < its.toArray.size := by
      rw [List.size_toArray]
      exact (List.getElem?_eq_some_iff.mp hu).1
    refine wpAny_pyNext_enum_itemD (Draws.tuple (prog := X.prog) (w := X.w) (A := X.A.in1) (show X.A.in1.handled = none from I.ok.hd hc) ti src nti its.toArray) ie ⟨iti, tup'⟩ here ne (by simp [nen.symm, ne]) fun y g1 tk hy he it2 hT big kept => ?_
    obtain rfl : y = u := by
      have at1 : its.toArray[i]? = some u := by simpa using hu
      exact Option.some.inj (hy.symm.trans at1)
    refine ⟨_, rfl, wpAny_letOwnedTupleGo_enum (s := { s with heap := g1, toks := tk + 1 }) he fun g2 he2 own => ?_⟩
    have pr : g2.get? s.heap.objs.size = some { cls := .type "tuple", data := .seq #[.int i tk, y] } := (own.2 _ (Nat.ne_of_gt len)).trans hT
    have new : ObjOk X.prog X.w (upd H s.heap.objs.size (.tup [V.int (i : Nat), x])) g2 s.heap.objs.size (.tup [V.int (i : Nat), x]) := ⟨by show 2 ≤ sizeLine; decide, [.int i tk, y], .cons ⟨_, rfl⟩ (.cons is_u .nil), ⟨_, pr, rfl, _, rfl⟩⟩
    have off : ∀ b, b ∉ [en, ti] → b ≠ en ∧ b ≠ ti := fun b hb => ⟨fun z => hb (z ▸ List.mem_cons_self), fun z => hb (z ▸ List.mem_cons_of_mem _ List.mem_cons_self)⟩
    have I2 : L2.Inv X pins σ (upd H s.heap.objs.size (.tup [V.int (i : Nat), x])) { s with heap := g2, toks := tk + 1 } := I.turnedNew (ch := [en, ti]) (fun b ob hb q => (own.2 b (off b hb).1).trans (kept b ob (off b hb).1 (off b hb).2 q)) hf (Nat.le_refl _) new
    refine ⟨.ref s.heap.objs.size, _, I2, rfl, ⟨_, x, rfl, I.hok.fresh (Nat.le_refl _), rfl, fun ys hy => by rw [I.tuple_inj hy hq]; exact hx⟩, ⟨⟨y, ?_⟩, it2.1.at fun o q => (own.2 ti (Ne.symm ne)).trans q, ne⟩, fun b hb => ?_⟩
    · rw [show ((i + 1 : Nat) : Int) = (i : Int) + 1 from rfl]
      exact he2
    · have lb : b < s.heap.objs.size := by
        rcases pair_mem hb with z | z <;> subst z
        · exact len
        · exact lti
      rw [upd_ne (Nat.ne_of_lt lb)]
      exact (hf b hb).1
  done := by
    rintro X hP hw hK hc i pins s σ H E I hf ⟨⟨was, ie⟩, iti, ne⟩ ⟨xs, hq, hx⟩
    subst hP hw hK
    obtain ⟨its, rv, tup, _⟩ := I.tuple hq
    obtain ⟨f0, f1, f2, f3, f4, f5⟩ := hf ti (List.mem_cons_of_mem _ List.mem_cons_self)
    have many := rv.length
    have ty : s.TypeIs (.ref en) "enumerate" := ⟨_, ie, rfl⟩
    unfold pyNext
    apply wpAny_bind
    refine wpAny_attempt (wpAny_callSpecial?_slot (name := Str.ofString "__next__") ty F.slot_enumerate_next (wpAny_call_entry F.slot_enumerate_next ty F.entry_enumerate_next ?_ (F.args_enumerate_next_1 _)))
    show wpAny _ _ (field (.ref en) 2 >>= _) _ _ _
    refine wpAny_bind (wpAny_field ie rfl (x := .ref ti) rfl ?_)
    refine wpAny_bind (wpAny_nextOf_tuple_end (I.ok.hd hc) iti (show s.heap.IsTuple src its.toArray from tup) (by simp; omega) fun g x kept ⟨o, ho, stop⟩ => ?_)
    refine wpAny_bind (wpAny_isInstance (T := "StopIteration") (b := true) ⟨o, ho, stop⟩ isSubtype_stop ?_)
    exact wpAny_pure ⟨rfl, I.turned (t' := s.toks) (fun b o hb => kept b o hb) f0 f1 f3 f4 f5⟩
  self := fun A i s Q E ⟨⟨_, ie⟩, _⟩ h => wpAny_pyIter_enum ie h
def iEnumT (K : PySem.W.Frag) (ta : TA) : TI := fun σ H R => ta σ H fun vs H1 => ∃ a xs, vs = [.ref a] ∧ SqT K H1 a xs ∧ R (IteT K a) H1
theorem pi_enumT {X : Cx} {e : Expr} {ta : TA} {p pos tpos : Pos} {elts : List Expr} {kk : Nat} (hg : Gl X "enumerate") (hm : X.mg "enumerate" = none) (ha : PA X [e] ta) (hs : starEach [e] X.env = [(false, eval e X.env)] := by rfl) :
    PI X (.Tuple elts kk tpos) (.Call (.Name "enumerate" p) [e] [] pos) (iEnumT X.K ta) := by
  constructor
  intro pins s σ H R I h
  refine Call_ (ld_blt I hg hm boot_enumerate (PyProof.Rows.callWith_type1 (thn (ha.run pos pins s σ H _ I h) fun us s1 ⟨vs, H1, I1, r1, src, xs, ev, hq, q⟩ => ?_) hs rfl))
  subst ev
  cases r1 with
  | cons r rr =>
    cases rr
    cases r
    obtain ⟨its, rv, tup, _⟩ := I1.tuple hq
    refine call_enT (show s1.heap.IsTuple src its.toArray from tup) fun g ie iti _ kept => wpAny_pyIter_enum ie ?_
    have I2 : L2.Inv X pins σ H1 { s1 with heap := g } := I1.kept (t' := s1.toks) kept
    refine ⟨s1.heap.objs.size + 1, [s1.heap.objs.size + 1, s1.heap.objs.size], _, _, H1, rfl, I2, turn_enT src (s1.heap.objs.size + 1) s1.heap.objs.size, ⟨⟨.none, ie⟩, iti, Nat.succ_ne_self _⟩, fun b hb => ?_, q⟩
    have above : s1.heap.objs.size ≤ b := by
      rcases pair_mem hb with z | z
      · exact z ▸ Nat.le_succ _
      · exact Nat.le_of_eq z.symm
    exact I1.fpOk above (I1.hok.fresh above)
end Wk
/-! Loops and comprehensions in short. -/
namespace Wk
open PySem L2
theorem sz {n : Nat} (h : n ≤ 1000) : n ≤ sizeLine := Nat.le_of_lt (small1000 h)
/-! ### the rules with the written part named (within comprehensions it must be) -/
section
variable {X : Cx} {l : Expr} {tl : TE} {tg : Expr}
theorem ixTK (K : PySem.W.Frag) (h : X.K = K := by rfl) : IxR X (rIxT K) := by
  subst h
  exact ix_tup
theorem ixLK (K : PySem.W.Frag) (h : X.K = K := by rfl) : IxR X (rIxL K) := by
  subst h
  exact ix_list
theorem slTK (K : PySem.W.Frag) (h : X.K = K := by rfl) : SlR X (rSlA K) := by
  subst h
  exact sl_tupA
theorem slLK (K : PySem.W.Frag) (h : X.K = K := by rfl) : SlR X (rSlL K) := by
  subst h
  exact sl_list
theorem inK (K : PySem.W.Frag) (h : X.K = K := by rfl) : OpR X (compareOp .In) (rIn K false) := by
  subst h
  exact op_in_seq
theorem notInK (K : PySem.W.Frag) (h : X.K = K := by rfl) : OpR X (compareOp .NotIn) (rIn K true) := by
  subst h
  exact op_notIn_seq
def rLenK (K : PySem.W.Frag) : List V → Hp → VK → Prop := fun xs H Q => ∃ p ys, xs = [.ref p] ∧ (SqL K H p ys ∨ SqT K H p ys) ∧ Q (.int ys.length) H
theorem lenK (K : PySem.W.Frag) (h : X.K = K := by rfl) : CallR X (.builtin "len") (rLenK K) := by
  subst h
  exact call_len_seq
theorem ixSK (K : PySem.W.Frag) (h : X.K = K := by rfl) : IxR X (rIx K) := by
  subst h
  exact ix_seq
theorem isiK (K : PySem.W.Frag) (h : X.K = K := by rfl) : CallR X (.builtin "isinstance") (rIsi K) := by
  subst h
  exact call_isi
theorem isiTK (K : PySem.W.Frag) (h : X.K = K := by rfl) : CallR X (.builtin "isinstance") (rIsiT K) := by
  subst h
  exact call_isiT
theorem anyK (K : PySem.W.Frag) (h : X.K = K := by rfl) (hc : X.calm = true := by rfl) : CallR X (.builtin "any") (rAny K) := by
  subst h
  exact cr_any hc
theorem allK (K : PySem.W.Frag) (h : X.K = K := by rfl) (hc : X.calm = true := by rfl) : CallR X (.builtin "all") (rAll K) := by
  subst h
  exact cr_all hc
theorem sumK (K : PySem.W.Frag) (h : X.K = K := by rfl) (hc : X.calm = true := by rfl) : CallR X (.builtin "sum") (rSum K) := by
  subst h
  exact cr_sum hc
theorem maxK (K : PySem.W.Frag) (h : X.K = K := by rfl) (hc : X.calm = true := by rfl) : CallR X (.builtin "max") (rMax K) := by
  subst h
  exact cr_max hc
theorem minK (K : PySem.W.Frag) (h : X.K = K := by rfl) (hc : X.calm = true := by rfl) : CallR X (.builtin "min") (rMin K) := by
  subst h
  exact cr_min hc
theorem pi_tupK (K : PySem.W.Frag) (hl : PE X l tl) (h : X.K = K := by rfl) : PI X tg l (iTup K tl) := by
  subst h
  exact pi_tup hl
theorem pi_listK (K : PySem.W.Frag) (hl : PE X l tl) (h : X.K = K := by rfl) : PI X tg l (iList K tl) := by
  subst h
  exact pi_list hl
end
theorem rgV_n (m : Nat) : rgV 0 (m : Int) = tn (List.range m) := by
  unfold rgV
  rw [Int.sub_zero, Int.toNat_natCast]
  exact List.map_congr_left (fun k _ => by simp)
theorem tn_get {L : List Nat} {i : Nat} {v : V} (h : (tn L)[i]? = some v) : ∃ x, L[i]? = some x ∧ v = vn x := by
  rw [List.getElem?_map] at h
  cases e : L[i]? with
  | none =>
    rw [e] at h
    cases h
  | some x =>
    rw [e] at h
    exact ⟨x, rfl, (Option.some.inj h).symm⟩
theorem get_tn {L : List Nat} {i x : Nat} (h : L[i]? = some x) : (tn L)[i]? = some (vn x) := by
  rw [List.getElem?_map, h]
  rfl
theorem take_snoc {α : Type} {l : List α} {i : Nat} {x : α} (h : l[i]? = some x) : l.take (i + 1) = l.take i ++ [x] := by
  rw [List.take_add_one, h]
  rfl
theorem filt_snoc {L : List Nat} {i x : Nat} (p : Nat → Bool) (f : Nat → V) (h : L[i]? = some x) :
    ((L.take (i + 1)).filter p).map f = ((L.take i).filter p).map f ++ (if p x = true then [f x] else []) := by
  rw [take_snoc h, List.filter_append, List.map_append]
  by_cases e : p x = true
  · rw [if_pos e, List.filter_cons_of_pos e]
    rfl
  · rw [if_neg e, List.filter_cons_of_neg e]
    rfl
theorem filt_len (L : List Nat) (i : Nat) (p : Nat → Bool) (f : Nat → V) (h : L.length ≤ 1000) : (((L.take i).filter p).map f).length < sizeLine := by
  rw [List.length_map]
  have h1 := List.length_filter_le p (L.take i)
  have h2 : (L.take i).length ≤ L.length := by
    rw [List.length_take]
    exact Nat.min_le_right _ _
  exact small1000 (by omega)
/-- the word of a comprehension: what stands in the new list -/
def LcP (H1 : Hp) (D : Addr) (L : List Nat) (p : Nat → Bool) (f : Nat → V) (i : Nat) (H : Hp) : Prop := Same H1 H ∧ H D = some (.lst (((L.take i).filter p).map f))
section
variable {K : PySem.W.Frag} {a D : Addr} {L : List Nat} {g : TG} {tt : TT} {te : TE} {vs : List Nat} {σ : St} {H1 : Hp} {Qd : Hp → Prop}
theorem lcp_turn {p : Nat → Bool} {f : Nat → V} {i x : Nat} {H : Hp} (hD : H1 D = none) (hlen : L.length ≤ 1000) (hx : L[i]? = some x) (hP : LcP H1 D L p f i H) :
    (p x = true → ∀ H4, Same H H4 → ∃ acc, H4 D = some (.lst acc) ∧ acc.length < sizeLine ∧ LcP H1 D L p f (i + 1) (upd H4 D (.lst (acc ++ [f x])))) ∧ (p x = false → ∀ H3, Same H H3 → LcP H1 D L p f (i + 1) H3) := by
  obtain ⟨s, hL⟩ := hP
  refine ⟨fun e H4 s4 => ⟨_, s4 _ _ hL, filt_len L i p f hlen, Same.upd (s.trans s4) hD, ?_⟩, fun e H3 s3 => ⟨s.trans s3, ?_⟩⟩
  · rw [upd_same, filt_snoc p f hx, if_pos e]
  · rw [filt_snoc p f hx, if_neg (by rw [e]; exact Bool.false_ne_true), List.append_nil]
    exact s3 _ _ hL
theorem lcp_end {p : Nat → Bool} {f : Nat → V} {H : Hp} (h : LcP H1 D L p f L.length H) : Same H1 H ∧ H D = some (.lst ((L.filter p).map f)) := by
  obtain ⟨s, hL⟩ := h
  rw [List.take_length] at hL
  exact ⟨s, hL⟩
/-- what a comprehension asks at its start -/
abbrev LcR (T : It) (g : TG) (tt : TT) (te : TE) (vs : List Nat) (σ : St) (H1 : Hp) (D : Addr) (Qd : Hp → Prop) : Prop := ∃ W : Nat → Nat → Hp → Prop, (∃ m, W 0 m (upd H1 D (.lst []))) ∧ ∀ i m H, W i m H → (T.stop i H ∧ Qd H) ∨ (T.go i H ∧ ∃ Nx : Hp → Prop, (∀ H', Nx H' → ∃ m', m' < m ∧ W (i + 1) m' H') ∧
    ∀ x H', T.yld i H x H' → g x (wipe σ vs) H' fun σ2 H2 => wipe σ2 vs = wipe σ vs ∧ tt σ2 H2 fun b H3 => if b = true then te σ2 H3 fun y H4 => ∃ acc, H4 D = some (.lst acc) ∧ acc.length < sizeLine ∧ Nx (upd H4 D (.lst (acc ++ [y]))) else Nx H3)
/-- [e for x in t if c], t a tuple of numbers -/
theorem lc_filtT (p : Nat → Bool) (f : Nat → V) (hT : H1 a = some (.tup (tn L))) (hD : H1 D = none) (hlen : L.length ≤ 1000)
    (hs : ∀ (x : Nat) (H : Hp) (N : Hp → Prop), x ∈ L → Same H1 H → (p x = true → ∀ H4, Same H H4 → ∃ acc, H4 D = some (.lst acc) ∧ acc.length < sizeLine ∧ N (upd H4 D (.lst (acc ++ [f x])))) → (p x = false → ∀ H3, Same H H3 → N H3) →
      g (vn x) (wipe σ vs) H fun σ2 H2 => wipe σ2 vs = wipe σ vs ∧ tt σ2 H2 fun b H3 => if b = true then te σ2 H3 fun y H4 => ∃ acc, H4 D = some (.lst acc) ∧ acc.length < sizeLine ∧ N (upd H4 D (.lst (acc ++ [y]))) else N H3)
    (hd : ∀ H', Same H1 H' → H' D = some (.lst ((L.filter p).map f)) → Qd H') :
    LcR (Itt K a) g tt te vs σ H1 D Qd := by
  refine lc_tup (K := K) (a := a) (xs := tn L) (LcP H1 D L p f) ⟨same_upd hD, upd_same⟩ (fun i H _ hP => SqT.of (hP.1 _ _ hT)) (fun i v H hi hP => ?_) (fun H hP => ?_)
  · obtain ⟨x, hx, rfl⟩ := tn_get hi
    obtain ⟨h1, h2⟩ := lcp_turn hD hlen hx hP
    exact hs x H _ (List.mem_of_getElem? hx) hP.1 h1 h2
  · rw [List.length_map] at hP
    obtain ⟨s, e⟩ := lcp_end hP
    exact hd H s e
/-- .., a list of numbers -/
theorem lc_filtL (p : Nat → Bool) (f : Nat → V) (hT : H1 a = some (.lst (tn L))) (hD : H1 D = none) (hlen : L.length ≤ 1000)
    (hs : ∀ (x : Nat) (H : Hp) (N : Hp → Prop), x ∈ L → Same H1 H → (p x = true → ∀ H4, Same H H4 → ∃ acc, H4 D = some (.lst acc) ∧ acc.length < sizeLine ∧ N (upd H4 D (.lst (acc ++ [f x])))) → (p x = false → ∀ H3, Same H H3 → N H3) →
      g (vn x) (wipe σ vs) H fun σ2 H2 => wipe σ2 vs = wipe σ vs ∧ tt σ2 H2 fun b H3 => if b = true then te σ2 H3 fun y H4 => ∃ acc, H4 D = some (.lst acc) ∧ acc.length < sizeLine ∧ N (upd H4 D (.lst (acc ++ [y]))) else N H3)
    (hd : ∀ H', Same H1 H' → H' D = some (.lst ((L.filter p).map f)) → Qd H') :
    LcR (Itl K a) g tt te vs σ H1 D Qd := by
  refine lc_list (K := K) (a := a) (xs := tn L) (LcP H1 D L p f) ⟨same_upd hD, upd_same⟩ (fun i H _ hP => SqL.of (hP.1 _ _ hT)) (fun i v H hi hP => ?_) (fun H hP => ?_)
  · obtain ⟨x, hx, rfl⟩ := tn_get hi
    obtain ⟨h1, h2⟩ := lcp_turn hD hlen hx hP
    exact hs x H _ (List.mem_of_getElem? hx) hP.1 h1 h2
  · rw [List.length_map] at hP
    obtain ⟨s, e⟩ := lcp_end hP
    exact hd H s e
/-- .., range(lo, lo + n) -/
theorem lc_filtR {lo n : Nat} (p : Nat → Bool) (f : Nat → V) (hD : H1 D = none) (hlen : n ≤ 1000)
    (hs : ∀ (x : Nat) (H : Hp) (N : Hp → Prop), x ∈ List.range' lo n → Same H1 H → (p x = true → ∀ H4, Same H H4 → ∃ acc, H4 D = some (.lst acc) ∧ acc.length < sizeLine ∧ N (upd H4 D (.lst (acc ++ [f x])))) → (p x = false → ∀ H3, Same H H3 → N H3) →
      g (vn x) (wipe σ vs) H fun σ2 H2 => wipe σ2 vs = wipe σ vs ∧ tt σ2 H2 fun b H3 => if b = true then te σ2 H3 fun y H4 => ∃ acc, H4 D = some (.lst acc) ∧ acc.length < sizeLine ∧ N (upd H4 D (.lst (acc ++ [y]))) else N H3)
    (hd : ∀ H', Same H1 H' → H' D = some (.lst (((List.range' lo n).filter p).map f)) → Qd H') :
    LcR (Itr (lo : Int) n) g tt te vs σ H1 D Qd := by
  have hl : (List.range' lo n).length = n := List.length_range'
  refine lc_range (lo := (lo : Int)) (n := n) (LcP H1 D (List.range' lo n) p f) ⟨same_upd hD, upd_same⟩ (fun i H hi hP => ?_) (fun H hP => ?_)
  · have hx : (List.range' lo n)[i]? = some (lo + i) := by
      rw [List.getElem?_range' hi]
      simp
    obtain ⟨h1, h2⟩ := lcp_turn hD (by rw [hl]; exact hlen) hx hP
    exact hs (lo + i) H _ (List.mem_of_getElem? hx) hP.1 h1 h2
  · have hP' : LcP H1 D (List.range' lo n) p f (List.range' lo n).length H := by
      rw [hl]
      exact hP
    obtain ⟨s, e⟩ := lcp_end hP'
    exact hd H s e
end
/-- for i, x in enumerate(t): .. -/
theorem for_enumT {K : PySem.W.Frag} {a : Addr} {xs : List V} {g : TG} {tb : TS} {D : Ends} {σ : St} {H : Hp} (Pv : Nat → St → Hp → Prop) (h0 : Pv 0 σ H) (hl : ∀ i σ H, i ≤ xs.length → Pv i σ H → SqT K H a xs)
    (hs : ∀ i x σ H T, xs[i]? = some x → Pv i σ H → H T = none → g (.ref T) σ (upd H T (.tup [.int (i : Nat), x])) fun σ2 H2 => tb { D with nx := Pv (i + 1), ct := Pv (i + 1), bk := D.nx } σ2 H2) (hd : ∀ σ H, Pv xs.length σ H → D.nx σ H) :
    ∃ W : Nat → Nat → St → Hp → Prop, (∃ m, W 0 m σ H) ∧ ∀ i m σ H, W i m σ H → ((IteT K a).stop i H ∧ D.nx σ H) ∨
      ((IteT K a).go i H ∧ ∃ N : St → Hp → Prop, (∀ σ' H', N σ' H' → ∃ m', m' < m ∧ W (i + 1) m' σ' H') ∧ ∀ x H', (IteT K a).yld i H x H' → g x σ H' fun σ2 H2 => tb { D with nx := N, ct := N, bk := D.nx } σ2 H2) := by
  refine ⟨fun k left τ G => left + k = xs.length ∧ Pv k τ G, ⟨xs.length, rfl, h0⟩, ?_⟩
  rintro k left τ G ⟨sum, pk⟩
  have here := hl k τ G (by omega) pk
  cases left with
  | zero =>
    obtain rfl : k = xs.length := by omega
    exact .inl ⟨⟨xs, here, Nat.le_refl _⟩, hd τ G pk⟩
  | succ left =>
    have lt : k < xs.length := by omega
    refine .inr ⟨⟨xs, xs[k], here, List.getElem?_eq_getElem lt⟩, Pv (k + 1), fun τ' G' pk' => ⟨left, Nat.lt_succ_self _, by omega, pk'⟩, ?_⟩
    rintro v G' ⟨T, z, rfl, free, rfl, at0⟩
    exact hs k z τ G T (at0 xs here) pk free
end Wk
/-! Small defs: is_int, is_from, is_wall, need_yard, sides_of, every, without, rest_of. -/
namespace Wk
open PySem L2
/-- a new object o is handed back, all else as before -/
def Gives (H : Hp) (Q : VK) (o : HO) : Prop := ∀ (H' : Hp) (q : Addr), Same H H' → H q = none → H' q = some o → Q (.ref q) H'
theorem k_ii : kitB "int" "int" = some true := by decide +kernel
theorem k_ib : kitB "int" "bool" = some false := by decide +kernel
theorem k_tt : kitB "tuple" "tuple" = some true := by decide +kernel
theorem slot0 {H : Hp} {a b : Addr} {o u : HO} (h : H a = some o) (h' : H b = some u) (e : a = b) : o = u := by
  subst e
  rw [h] at h'
  exact Option.some.inj h'
def spIsInt : Sp := fun vs H Q _ => ∃ n : Int, vs = [.int n] ∧ Q (.bl true) H
def spIsFrom : Sp := fun vs H Q _ => ∃ n a b : Int, vs = [.int n, .int a, .int b] ∧ Q (.bl (decide (a ≤ n ∧ n ≤ b))) H
def spIsWall : Sp := fun vs H Q _ => ∃ (p : Addr) (w : Wall) (n : Nat), vs = [.ref p, vn n] ∧ H p = some (.tup (tw w)) ∧ w.1 < w.2.1 ∧ w.2.1 < n ∧ w.2.2 ≤ 2 ∧ Q (.bl true) H
def spNeedYard : Sp := fun vs H Q _ => ∃ (v : V) (y : Yard), vs = [v] ∧ Yd H v y ∧ ∀ H', Same H H' → Q .non H'
def spSides : Sp := fun vs H Q _ => ∃ (p : Addr) (w : Wall), vs = [.ref p] ∧ H p = some (.tup (tw w)) ∧ w.2.2 ≤ 2 ∧ Gives H Q (.tup (tn (sidesOf w)))
def spEvery : Sp := fun vs H Q _ => ∃ (v : V) (y : Yard), vs = [v] ∧ Yd H v y ∧ Gives H Q (.tup (tn (List.range y.m)))
def spWithout : Sp := fun vs H Q _ => ∃ (a : Addr) (L : List Nat) (x : Nat), vs = [.ref a, vn x] ∧ H a = some (.tup (tn L)) ∧ L.length ≤ 100 ∧ Gives H Q (.tup (tn (wo L x)))
def spRest : Sp := fun vs H Q _ => ∃ (v : V) (y : Yard) (a : Addr) (L : List Nat), vs = [v, .ref a] ∧ Yd H v y ∧ H a = some (.tup (tn L)) ∧ Gives H Q (.tup (tn ((List.range y.m).filter fun x => decide (x ∉ L))))
section
variable {P : Program} {w : World} {K : PySem.W.Frag} {mg : Str → Option Value} {base : Heap} {f : Addr} {fd : FuncData}
theorem ok_is_int (F : Fun K "is_int" "is_int" s_is_int f fd) (T : Txt mg) : FnOk P w K mg base CX0 1 f fd ["value"] spIsInt := by
  refine F.ok sc_is_int (fun vs H Q E h => ?_) (fun cdv A outer s H vs Q E hr h => ?_)
  · obtain ⟨n, rfl, _⟩ := h
    rfl
  · obtain ⟨n, rfl, q⟩ := h
    refine ⟨_, (pss_one (ps_ret (pe_and (pe_callB (isiK K) (by rfl) T.isinstance b_isinstance (pa_cons (pv 0) (pa_cons (pe_bltn (v := .ty "int") rfl T.int b_int rfl) pa_nil))) (pe_one (pe_not (pe_callB (isiK K) (by rfl) T.isinstance b_isinstance (pa_cons (pv 0) (pa_cons (pe_bltn (v := .ty "bool") rfl T.bool b_bool rfl) pa_nil)))))))), ?_⟩
    refine ⟨_, rfl, _, _, _, _, _, rfl, .ty _, .base (.int n), kit_ty k_ii, true, rfl, iteT ?_⟩
    exact ⟨_, rfl, _, _, _, _, _, rfl, .ty _, .base (.int n), kit_ty k_ib, false, rfl, q⟩
theorem ok_is_from (c_is_int : Cal P w K mg base 1 "is_int" ["value"] spIsInt) (F : Fun K "is_from" "is_from" s_is_from f fd) (T : Txt mg) : FnOk P w K mg base CX0 2 f fd ["value", "least", "most"] spIsFrom := by
  refine F.ok sc_is_from (fun vs H Q E h => ?_) (fun cdv A outer s H vs Q E hr h => ?_)
  · obtain ⟨n, a, b, rfl, _⟩ := h
    rfl
  · obtain ⟨n, a, b, rfl, q⟩ := h
    refine ⟨_, (pss_one (ps_ret (pe_and (pf c_is_int hr (by decide) (by rfl) (pa_cons (pv 0) pa_nil)) (pe_one (pe_chain op_le op_le (pv 1) (pv 0) (pv 2)))))), ?_⟩
    refine ⟨_, rfl, n, rfl, true, rfl, iteT ?_⟩
    refine ⟨_, rfl, _, rfl, a, n, rfl, rfl, decide (a ≤ n), rfl, ?_⟩
    by_cases h1 : a ≤ n
    · rw [if_pos (decide_eq_true h1)]
      refine ⟨_, rfl, n, b, rfl, rfl, ?_⟩
      have e : decide (a ≤ n ∧ n ≤ b) = decide (n ≤ b) := decide_eq_decide.mpr ⟨fun z => z.2, fun z => ⟨h1, z⟩⟩
      rw [e] at q
      exact q
    · rw [if_neg (by rw [decide_eq_false h1]; exact Bool.false_ne_true)]
      have e : decide (a ≤ n ∧ n ≤ b) = false := decide_eq_false fun z => h1 z.1
      rw [e] at q
      exact q
theorem ok_is_wall (c_is_from : Cal P w K mg base 2 "is_from" ["value", "least", "most"] spIsFrom) (F : Fun K "is_wall" "is_wall" s_is_wall f fd) (T : Txt mg) : FnOk P w K mg base CX0 3 f fd ["value", "many"] spIsWall := by
  refine F.ok sc_is_wall (fun vs H Q E h => ?_) (fun cdv A outer s H vs Q E hr h => ?_)
  · obtain ⟨p, w, n, rfl, _⟩ := h
    rfl
  · obtain ⟨p, ⟨lo, hi, si⟩, n, rfl, hp, h1, h2, h3, q⟩ := h
    refine ⟨_, (pss_cons (ps_if (PW.pt (pw_or (pt_not (pt_val (pe_callB (isiK K) (by rfl) T.isinstance b_isinstance (pa_cons (pv 0) (pa_cons (pe_bltn (v := .ty "tuple") rfl T.tuple b_tuple rfl) pa_nil))))) (pw_or1 (pt_cmpR op_ne (pe_callB (lenK K) (by rfl) T.len b_len (pa_cons (pv 0) pa_nil)) pe_int (nomark _)))))
      (pss_one (ps_ret pe_bl))
      pss_nil)
      (pss_cons (ps_asg (pv 0) (pg_tup rfl (pgs_cons (pg_name (i := 2) sc_is_wall.nd rfl (Or.inl rfl)) (pgs_cons (pg_name (i := 3) sc_is_wall.nd rfl (Or.inl rfl)) (pgs_cons (pg_name (i := 4) sc_is_wall.nd rfl (Or.inl rfl)) pgs_nil)))))
      (pss_one (ps_ret (pe_and (pf c_is_from hr (by decide) (by rfl) (pa_cons (pv 2) (pa_cons pe_int (pa_cons (pe_op op_sub (pv 1) pe_int) pa_nil)))) (pe_and (pf c_is_from hr (by decide) (by rfl) (pa_cons (pv 3) (pa_cons pe_int (pa_cons (pe_op op_sub (pv 1) pe_int) pa_nil)))) (pe_and (pe_cmpR op_lt (pv 2) (pv 3) (nomark _)) (pe_one (pf c_is_from hr (by decide) (by rfl) (pa_cons (pv 4) (pa_cons pe_int (pa_cons pe_int pa_nil)))))))))))), ?_⟩
    refine ⟨_, rfl, _, _, _, _, _, rfl, .ty _, .base (.tup hp), kit_ty k_tt, true, rfl, iteF ?_⟩
    refine ⟨_, rfl, p, _, rfl, .inr (SqT.of hp), rfl, _, rfl, iteF ?_⟩
    refine ⟨_, rfl, p, tw (lo, hi, si), rfl, SqT.of hp, rfl, ?_⟩
    refine ⟨_, _, rfl, _, _, rfl, _, _, rfl, rfl, ?_⟩
    have h1 : lo < hi := h1
    have h2 : hi < n := h2
    have h3 : si ≤ 2 := h3
    refine ⟨_, rfl, _, rfl, _, _, rfl, rfl, _, _, _, rfl, true, congrArg V.bl (decide_eq_true ⟨by omega, by omega⟩), iteT ?_⟩
    refine ⟨_, rfl, _, rfl, _, _, rfl, rfl, _, _, _, rfl, true, congrArg V.bl (decide_eq_true ⟨by omega, by omega⟩), iteT ?_⟩
    refine ⟨_, rfl, _, rfl, _, _, rfl, rfl, true, congrArg V.bl (decide_eq_true (by omega)), iteT ?_⟩
    refine ⟨_, rfl, _, _, _, rfl, ?_⟩
    have e : decide ((0 : Int) ≤ (si : Int) ∧ (si : Int) ≤ 2) = true := decide_eq_true ⟨by omega, by omega⟩
    show Q (V.bl (decide ((0 : Int) ≤ (si : Int) ∧ (si : Int) ≤ 2))) H
    rw [e]
    exact q
theorem ok_need_yard (c_is_from : Cal P w K mg base 2 "is_from" ["value", "least", "most"] spIsFrom) (c_is_wall : Cal P w K mg base 3 "is_wall" ["value", "many"] spIsWall) (F : Fun K "need_yard" "need_yard" s_need_yard f fd) (T : Txt mg) :
    FnOk P w K mg base CX0 4 f fd ["value"] spNeedYard := by
  obtain ⟨t9, MR⟩ := T.rooms
  obtain ⟨t12, MW⟩ := T.walls
  refine F.ok sc_need_yard (fun vs H Q E h => ?_) (fun cdv A outer s H vs Q E hr h => ?_)
  · obtain ⟨v, y, rfl, _⟩ := h
    rfl
  · obtain ⟨v, y, rfl, ⟨ok, a, b, ps, rfl, ha, hb, hp⟩, q⟩ := h
    have ok1 := ok.lo
    have ok2 := ok.hi
    have ok3 : y.m ≤ 6 := ok.nw
    have hl : ps.length = y.walls.length := paired_len hp
    refine ⟨_, (pss_cons (ps_if (PW.pt (pw_or (pt_not (pt_val (pe_callB (isiK K) (by rfl) T.isinstance b_isinstance (pa_cons (pv 0) (pa_cons (pe_bltn (v := .ty "tuple") rfl T.tuple b_tuple rfl) pa_nil))))) (pw_or (pt_cmpR op_ne (pe_callB (lenK K) (by rfl) T.len b_len (pa_cons (pv 0) pa_nil)) pe_int (nomark _)) (pw_or1 (pt_not (pt_val (pf c_is_from hr (by decide) (by rfl) (pa_cons (pe_ix (ixTK K) (pv 0) pe_int (fun _ _ => rfl)) (pa_cons pe_int (pa_cons (pe_glob (v := .int 9) rfl MR ⟨_, rfl⟩) pa_nil))))))))))
      (pss_one (ps_never))
      pss_nil)
      (pss_cons (ps_if (PW.pt (pw_or (pt_not (pt_val (pe_callB (isiK K) (by rfl) T.isinstance b_isinstance (pa_cons (pe_ix (ixTK K) (pv 0) pe_int (fun _ _ => rfl)) (pa_cons (pe_bltn (v := .ty "tuple") rfl T.tuple b_tuple rfl) pa_nil))))) (pw_or1 (pt_cmpR op_gt (pe_callB (lenK K) (by rfl) T.len b_len (pa_cons (pe_ix (ixTK K) (pv 0) pe_int (fun _ _ => rfl)) pa_nil)) (pe_glob (v := .int 12) rfl MW ⟨_, rfl⟩) (nomark _)))))
      (pss_one (ps_never))
      pss_nil)
      (pss_one (ps_for PassesOwn.never rfl (pi_enumT (by rfl) T.enumerate (pa_cons (pe_ix (ixTK K) (pv 0) pe_int (fun _ _ => rfl)) pa_nil)) (pg_tup rfl (pgs_cons (pg_name (i := 1) sc_need_yard.nd rfl (Or.inl rfl)) (pgs_cons (pg_name (i := 2) sc_need_yard.nd rfl (Or.inl rfl)) pgs_nil)))
      (pss_one (ps_if (pt_not (pt_val (pf c_is_wall hr (by decide) (by rfl) (pa_cons (pv 2) (pa_cons (pe_ix (ixTK K) (pv 0) pe_int (fun _ _ => rfl)) pa_nil)))))
        (pss_one (ps_never))
        pss_nil)))))), ?_⟩
    refine ⟨_, rfl, _, _, _, _, _, rfl, .ty _, .base (.tup ha), kit_ty k_tt, true, rfl, iteF ?_⟩
    refine ⟨_, rfl, a, _, rfl, .inr (SqT.of ha), rfl, _, rfl, iteF ?_⟩
    refine ⟨_, rfl, a, _, 0, _, rfl, rfl, SqT.of ha, rfl, _, _, _, rfl, true, congrArg V.bl (decide_eq_true ⟨by omega, by omega⟩), iteF ?_⟩
    refine ⟨_, rfl, a, _, 1, _, rfl, rfl, SqT.of ha, rfl, _, _, _, _, _, rfl, .ty _, .base (.tup hb), kit_ty k_tt, true, rfl, iteF ?_⟩
    refine ⟨_, rfl, a, _, 1, _, rfl, rfl, SqT.of ha, rfl, b, _, rfl, .inr (SqT.of hb), _, _, rfl, rfl, false, congrArg V.bl (decide_eq_false (by rw [List.length_map]; have := ok.nw; omega)), iteF ?_⟩
    refine ⟨_, rfl, a, _, 1, _, rfl, rfl, SqT.of ha, rfl, b, _, rfl, SqT.of hb, for_enumT (xs := ps.map V.ref) (fun i σ H' => ∃ i1 i2, σ = [some (.ref a), i1, i2] ∧ Same H H') ⟨_, _, rfl, Same.refl _⟩ (fun i σ H' _ ⟨_, _, _, s1⟩ => SqT.of (s1 _ _ hb)) ?_ ?_⟩
    · rintro i x σ H' T hi ⟨i1, i2, rfl, s1⟩ nT
      obtain ⟨p, hpi, rfl⟩ : ∃ p, ps[i]? = some p ∧ x = .ref p := by
        rw [List.getElem?_map] at hi
        cases e : ps[i]? with
        | none =>
          rw [e] at hi
          cases hi
        | some p =>
          rw [e] at hi
          exact ⟨p, rfl, (Option.some.inj hi).symm⟩
      have hlt : i < y.walls.length := by
        have := (List.getElem?_eq_some_iff.mp hpi).1
        omega
      obtain ⟨p', hp', tp⟩ := paired_get hp (Yard.w_get hlt)
      rw [hpi] at hp'
      cases hp'
      have s2 : Same H (upd H' T (.tup [.int (i : Nat), .ref p])) := s1.trans (same_upd nT)
      obtain ⟨w1, w2, w3⟩ := ok.at hlt
      refine ⟨T, [.int (i : Nat), .ref p], rfl, SqT.of upd_same, rfl, _, _, rfl, _, _, rfl, rfl, ?_⟩
      refine ⟨_, rfl, _, rfl, a, _, 0, _, rfl, rfl, SqT.of (s2 _ _ ha), rfl, p, y.w i, y.many, rfl, s2 _ _ tp, w1, w2, w3, true, rfl, iteF ?_⟩
      exact ⟨_, _, rfl, s2⟩
    · rintro σ H' ⟨_, _, rfl, s1⟩
      exact q H' s1
theorem ok_sides_of (F : Fun K "sides_of" "sides_of" s_sides_of f fd) (T : Txt mg) : FnOk P w K mg base CX0 1 f fd ["wall"] spSides := by
  refine F.ok sc_sides_of (fun vs H Q E h => ?_) (fun cdv A outer s H vs Q E hr h => ?_)
  · obtain ⟨p, w, rfl, _⟩ := h
    rfl
  · obtain ⟨p, ⟨lo, hi, si⟩, rfl, hp, h3, q⟩ := h
    have h3 : si ≤ 2 := h3
    refine ⟨_, (pss_cons (ps_asg (pv 0) (pg_tup rfl (pgs_cons (pg_name (i := 1) sc_sides_of.nd rfl (Or.inl rfl)) (pgs_cons (pg_name (i := 2) sc_sides_of.nd rfl (Or.inl rfl)) (pgs_cons (pg_name (i := 3) sc_sides_of.nd rfl (Or.inl rfl)) pgs_nil)))))
      (pss_one (ps_ret (pe_ix (ixLK K) (pe_lst (pa_cons (pe_tup (pa_cons (pv 1) pa_nil)) (pa_cons (pe_tup (pa_cons (pv 2) pa_nil)) (pa_cons (pe_tup (pa_cons (pv 1) (pa_cons (pv 2) pa_nil))) pa_nil)))) (pv 3) (fun _ _ => rfl))))), ?_⟩
    refine ⟨_, rfl, p, tw (lo, hi, si), rfl, SqT.of hp, rfl, ?_⟩
    refine ⟨_, _, rfl, _, _, rfl, _, _, rfl, rfl, ?_⟩
    refine ⟨_, rfl, sz (by simp), fun p1 n1 => ?_⟩
    refine ⟨_, rfl, sz (by simp), fun p2 n2 => ?_⟩
    refine ⟨_, rfl, _, rfl, sz (by simp), fun p3 n3 => ?_⟩
    refine ⟨sz (by simp), fun l nl => ?_⟩
    have s1 : Same H (upd H p1 (.tup [vn lo])) := same_upd n1
    have s2 := same_upd (o := HO.tup [vn hi]) n2
    have s3 := same_upd (o := HO.tup [vn lo, vn hi]) n3
    have s4 := same_upd (o := HO.lst [V.ref p1, V.ref p2, V.ref p3]) nl
    have f1 : H p1 = none := n1
    have f2 : H p2 = none := s1.free n2
    have f3 : H p3 = none := s1.free (s2.free n3)
    have sA := ((s1.trans s2).trans s3).trans s4
    have e1 := ((s2.trans s3).trans s4) _ _ (upd_same (H := H) (a := p1) (o := .tup [vn lo]))
    have e2 := (s3.trans s4) _ _ (upd_same (a := p2) (o := .tup [vn hi]))
    have e3 := s4 _ _ (upd_same (a := p3) (o := .tup [vn lo, vn hi]))
    have c : si = 0 ∨ si = 1 ∨ si = 2 := by omega
    rcases c with rfl | rfl | rfl
    · exact ⟨_, rfl, l, _, 0, _, rfl, rfl, SqL.of upd_same, rfl, q _ p1 sA f1 e1⟩
    · exact ⟨_, rfl, l, _, 1, _, rfl, rfl, SqL.of upd_same, rfl, q _ p2 sA f2 e2⟩
    · exact ⟨_, rfl, l, _, 2, _, rfl, rfl, SqL.of upd_same, rfl, q _ p3 sA f3 e3⟩
theorem ok_every (F : Fun K "every" "every" s_every f fd) (T : Txt mg) : FnOk P w K mg base CX0 1 f fd ["yard"] spEvery := by
  refine F.ok sc_every (fun vs H Q E h => ?_) (fun cdv A outer s H vs Q E hr h => ?_)
  · obtain ⟨v, y, rfl, _⟩ := h
    rfl
  · obtain ⟨v, y, rfl, ⟨ok, a, b, ps, rfl, ha, hb, hp⟩, q⟩ := h
    have ok3 : y.m ≤ 6 := ok.nw
    have hl : ps.length = y.walls.length := paired_len hp
    have hl2 : (ps.map V.ref).length = y.m := by rw [List.length_map, hl]
    refine ⟨_, (pss_one (ps_ret (pe_tupRg rfl (by rfl) T.tuple (prg_1 (by rfl) T.range (pe_callB (lenK K) (by rfl) T.len b_len (pa_cons (pe_ix (ixTK K) (pv 0) pe_int (fun _ _ => rfl)) pa_nil)))))), ?_⟩
    refine ⟨_, rfl, a, _, 1, _, rfl, rfl, SqT.of ha, rfl, b, _, rfl, .inr (SqT.of hb), _, rfl, ?_⟩
    rw [hl2]
    refine ⟨RgOk.of_le (by omega) (by omega) (by omega) (by omega), fun r nr => ?_⟩
    rw [rgV_n]
    exact q _ r (same_upd nr) nr upd_same
theorem ok_without (F : Fun K "without" "without" s_without f fd) (T : Txt mg) : FnOk P w K mg base CX0 1 f fd ["lot", "number"] spWithout := by
  refine F.ok sc_without (fun vs H Q E h => ?_) (fun cdv A outer s H vs Q E hr h => ?_)
  · obtain ⟨a, L, x, rfl, _⟩ := h
    rfl
  · obtain ⟨a, L, x, rfl, ha, hlen, q⟩ := h
    refine ⟨_, (pss_one (ps_ret (pe_callTy call_tuple_of (by rfl) T.tuple b_tuple (pa_cons (pe_lc (own := [("one", 2)]) (g := gName 2) (by rfl) sc_without.nd (pi_tupK K (pv 0)) (blkOk_by (by kernel_rfl)) (fun _ _ _ _ _ => pg_name (i := 2) sc_without.nd rfl (Or.inl rfl)) (fun _ _ _ _ _ => pts_one (pt_cmpR op_ne (pv 2) (pv 1) (nomark _))) (fun _ _ _ _ _ => (pv 2))) pa_nil)))), ?_⟩
    refine ⟨_, rfl, a, rfl, ⟨_, SqT.of ha⟩, fun D nD => lc_filtT (fun z => decide (z ≠ x)) vn ha nD (by omega) ?_ ?_⟩
    · intro z H' N hz s1 hT hF
      refine ⟨rfl, _, rfl, _, rfl, rfl, _, rfl, ?_⟩
      by_cases e : z = x
      · subst e
        rw [show (!decide (vn z = vn z)) = false by simp]
        exact iteF (hF (by simp) H' (Same.refl _))
      · rw [show (!decide (vn z = vn x)) = true by
          rw [decide_eq_false fun q => e (by have := V.int.inj q; omega)]
          rfl]
        exact iteT ⟨_, rfl, hT (decide_eq_true e) H' (Same.refl _)⟩
    · intro H' s1 e
      refine ⟨_, _, rfl, .inl ⟨SqL.of e, fun l nl => ?_⟩⟩
      exact q _ l (s1.trans (same_upd nl)) (s1.free nl) upd_same
theorem ok_rest_of (c_every : Cal P w K mg base 1 "every" ["yard"] spEvery) (F : Fun K "rest_of" "rest_of" s_rest_of f fd) (T : Txt mg) : FnOk P w K mg base CX0 2 f fd ["yard", "lot"] spRest := by
  refine F.ok sc_rest_of (fun vs H Q E h => ?_) (fun cdv A outer s H vs Q E hr h => ?_)
  · obtain ⟨v, y, a, L, rfl, _⟩ := h
    rfl
  · obtain ⟨v, y, a, L, rfl, hY, ha, q⟩ := h
    have ok3 : y.m ≤ 6 := hY.ok.nw
    refine ⟨_, (pss_one (ps_ret (pe_callTy call_tuple_of (by rfl) T.tuple b_tuple (pa_cons (pe_lc (own := [("number", 2)]) (g := gName 2) (by rfl) sc_rest_of.nd (pi_tupK K (pf c_every hr (by decide) (by rfl) (pa_cons (pv 0) pa_nil))) (blkOk_by (by kernel_rfl)) (fun _ _ _ _ _ => pg_name (i := 2) sc_rest_of.nd rfl (Or.inl rfl)) (fun _ _ _ _ _ => pts_one (pt_cmpR (notInK K) (pv 2) (pv 1) (by rfl))) (fun _ _ _ _ _ => (pv 2))) pa_nil)))), ?_⟩
    refine ⟨_, rfl, v, y, rfl, hY, fun H1 r s1 nr er => ⟨r, rfl, ⟨_, SqT.of er⟩, fun D nD => lc_filtT (fun z => decide (z ∉ L)) vn er nD (by rw [List.length_range]; omega) ?_ ?_⟩⟩
    · intro z H' N hz s2 hT hF
      refine ⟨rfl, _, rfl, _, rfl, a, _, rfl, .inr (SqT.of ((s1.trans s2) _ _ ha)), rfl, flat_n L, _, rfl, ?_⟩
      show if (!inV (vn z) (tn L)) = true then _ else _
      rw [inV_n]
      by_cases e : z ∈ L
      · rw [decide_eq_true e]
        exact iteF (hF (by simp [e]) H' (Same.refl _))
      · rw [decide_eq_false e]
        exact iteT ⟨_, rfl, hT (by simp [e]) H' (Same.refl _)⟩
    · intro H' s2 e
      refine ⟨_, _, rfl, .inl ⟨SqL.of e, fun l nl => ?_⟩⟩
      exact q _ l ((s1.trans s2).trans (same_upd nl)) (s1.free (s2.free nl)) upd_same
end
end Wk
/-! reached, joined. -/
namespace Wk
open PySem L2
theorem ite_in {x : Nat} {ks : List Nat} {A B : Prop} (h1 : x ∈ ks → A) (h2 : x ∉ ks → B) : if (if false = true then !inV (vn x) (tn ks) else inV (vn x) (tn ks)) = true then A else B := by
  show if inV (vn x) (tn ks) = true then A else B
  rw [inV_n]
  by_cases e : x ∈ ks
  · rw [decide_eq_true e]
    exact iteT (h1 e)
  · rw [decide_eq_false e]
    exact iteF (h2 e)
theorem ite_notin {x : Nat} {ks : List Nat} {A B : Prop} (h1 : x ∉ ks → A) (h2 : x ∈ ks → B) : if (if true = true then !inV (vn x) (tn ks) else inV (vn x) (tn ks)) = true then A else B := by
  show if (!inV (vn x) (tn ks)) = true then A else B
  rw [inV_n]
  by_cases e : x ∈ ks
  · rw [decide_eq_true e]
    exact iteF (h2 e)
  · rw [decide_eq_false e]
    exact iteT (h1 e)
theorem tn_snoc (ks : List Nat) (x : Nat) : tn (ks ++ [x]) = tn ks ++ [vn x] := by
  show (ks ++ [x]).map vn = ks.map vn ++ [vn x]
  rw [List.map_append]
  rfl
theorem tn_cz (ns : List Nat) : (cz ns).map V.int = tn ns := by
  rw [List.map_map]
  rfl
/-- the walls by their places -/
theorem wall_get {H : Hp} {ps : List Addr} {y : Yard} (hp : Paired (fun p w => H p = some (.tup (tw w))) ps y.walls) {x : Nat} (hx : x < y.m) : ∃ p, (ps.map V.ref)[x]? = some (.ref p) ∧ H p = some (.tup (tw (y.w x))) := by
  obtain ⟨p, h1, h2⟩ := paired_get hp (Yard.w_get hx)
  exact ⟨p, by rw [List.getElem?_map, h1]; rfl, h2⟩
/-- one pass over the gaps -/
def Pass (E : Rl) (n : Nat) (L ks0 : List Nat) (i : Nat) (rs : Bool) (ks : List Nat) : Prop :=
  Good E n L ks ∧ ((rs = false ∧ ks = ks0 ∧ ClosedOn E (L.take i) ks0) ∨ (rs = true ∧ ks0.length < ks.length))
theorem Pass.start {E : Rl} {n : Nat} {L ks : List Nat} (g : Good E n L ks) : Pass E n L ks 0 false ks := ⟨g, .inl ⟨rfl, rfl, fun x hx => by simp at hx⟩⟩
theorem closed_snoc {E : Rl} {L ks : List Nat} {i x : Nat} (hx : L[i]? = some x) (c : ClosedOn E (L.take i) ks) (h : ∀ a b, E x a b → a ∈ ks → b ∈ ks) : ClosedOn E (L.take (i + 1)) ks := fun z hz => by
  rw [take_snoc hx] at hz
  rcases List.mem_append.mp hz with q | q
  · exact c z q
  · have := List.mem_singleton.mp q
    subst this
    exact h
theorem Pass.done {E : Rl} {n : Nat} {L ks0 ks : List Nat} {rs : Bool} (h : Pass E n L ks0 L.length rs ks) : Good E n L ks ∧ (rs = true ∨ ClosedOn E L ks) ∧ (rs = false → ks = ks0) ∧ (rs = true → ks0.length < ks.length) := by
  obtain ⟨g, h⟩ := h
  rcases h with ⟨e, e2, c⟩ | ⟨e, l⟩
  · rw [List.take_length] at c
    exact ⟨g, .inr (by rw [e2]; exact c), fun _ => e2, fun z => (by rw [e] at z; cases z)⟩
  · exact ⟨g, .inl e, fun z => (by rw [e] at z; cases z), fun _ => l⟩
/-- the list of rooms, ready to be sorted -/
theorem sorted_rooms {E : Rl} {n : Nat} {L ks : List Nat} {ns' : List Int} (g : Good E n L ks) (c : ClosedOn E L ks) (hp : ns'.Perm (cz ks)) (hs : ns'.Pairwise (· ≤ ·)) : ns'.map V.int = tn (roomsOf E n L) := by
  obtain ⟨s, e, p, q⟩ := ints_perm hp hs
  rw [e, ← rooms_sort g c p q]
  exact tn_cz s
def spReached : Sp := fun vs H Q _ => ∃ (v : V) (y : Yard) (a : Addr) (L : List Nat), vs = [v, .ref a] ∧ Yd H v y ∧ H a = some (.tup (tn L)) ∧ (∀ x ∈ L, x < y.m) ∧ Gives H Q (.lst (tn (roomsOf (Ed y) y.many L)))
def spJoined : Sp := fun vs H Q _ => ∃ (v : V) (y : Yard) (a : Addr) (L : List Nat), vs = [v, .ref a] ∧ Yd H v y ∧ H a = some (.tup (tn L)) ∧ (∀ x ∈ L, x < y.m) ∧ Gives H Q (.lst (tn (roomsOf (Eu y) y.many L)))
/-- the two directions of a gap -/
def dir (w : Wall) (j : Nat) : Nat × Nat := if j = 0 then (w.1, w.2.1) else (w.2.1, w.1)
section
variable {P : Program} {w : World} {K : PySem.W.Frag} {mg : Str → Option Value} {base : Heap} {f : Addr} {fd : FuncData}
theorem ok_reached (c_sides_of : Cal P w K mg base 1 "sides_of" ["wall"] spSides) (F : Fun K "reached" "reached" s_reached f fd) (T : Txt mg) : FnOk P w K mg base CX0 2 f fd ["yard", "lot"] spReached := by
  refine F.ok sc_reached (fun vs H Q E h => ?_) (fun cdv A outer s H vs Q E hr h => ?_)
  · obtain ⟨v, y, a, L, rfl, _⟩ := h
    rfl
  · obtain ⟨v, y, al, L, rfl, ⟨ok, a, b, ps, rfl, ha, hb, hp⟩, hal, hL, q⟩ := h
    have bnd : Bnd (Ed y) L y.many := Ed.lt ok hL
    have ok1 := ok.lo
    have ok2 := ok.hi
    refine ⟨_, (pss_cons (ps_par (i := 2) (j := 3) (by rfl) sc_reached.nd rfl rfl (by decide) rfl rfl (pa_cons (pe_lst (pa_cons pe_int pa_nil)) (pa_cons pe_bl pa_nil)) (by rfl))
      (pss_cons (ps_while PassesOwn.never (pt_val (pv 3))
      (pss_cons (ps_set (i := 3) sc_reached.nd rfl (Or.inl rfl) pe_bl)
        (pss_one (ps_for PassesOwn.never rfl (pi_tupK K (pv 1)) (pg_name (i := 4) sc_reached.nd rfl (Or.inl rfl))
        (pss_cons (ps_asg (pe_ix (ixTK K) (pe_ix (ixTK K) (pv 0) pe_int (fun _ _ => rfl)) (pv 4) (fun _ _ => rfl)) (pg_tup rfl (pgs_cons (pg_name (i := 5) sc_reached.nd rfl (Or.inl rfl)) (pgs_cons (pg_name (i := 6) sc_reached.nd rfl (Or.inl rfl)) (pgs_cons (pg_name (i := 7) sc_reached.nd rfl (Or.inl rfl)) pgs_nil)))))
          (pss_one (ps_for PassesOwn.never rfl (pi_tupK K (pe_tup (pa_cons (pe_tup (pa_cons (pv 5) (pa_cons (pv 6) pa_nil))) (pa_cons (pe_tup (pa_cons (pv 6) (pa_cons (pv 5) pa_nil))) pa_nil)))) (pg_tup rfl (pgs_cons (pg_name (i := 8) sc_reached.nd rfl (Or.inl rfl)) (pgs_cons (pg_name (i := 9) sc_reached.nd rfl (Or.inl rfl)) pgs_nil)))
          (pss_one (ps_if (PW.pt (pw_and (pt_cmpR (inK K) (pv 8) (pv 2) (by rfl)) (pw_and (pt_cmpR (notInK K) (pv 9) (pv 2) (by rfl)) (pw_and1 (pt_cmpR (inK K) (pv 8) (pf c_sides_of hr (by decide) (by rfl) (pa_cons (pe_ix (ixTK K) (pe_ix (ixTK K) (pv 0) pe_int (fun _ _ => rfl)) (pv 4) (fun _ _ => rfl)) pa_nil)) (by rfl))))))
            (pss_cons (ps_expr (pe_bm PySem.F.plainAttrs_list PySem.F.slot_list_append PySem.F.type_list_append mt_append (pv 2) (pa_cons (pv 9) pa_nil)))
              (pss_one (ps_set (i := 3) sc_reached.nd rfl (Or.inl rfl) pe_bl)))
            pss_nil)))))))))
      (pss_one (ps_ret (pe_callB cr_sortedI (by rfl) T.sorted b_sorted (pa_cons (pv 2) pa_nil)))))), ?_⟩
    refine ⟨sz (by simp), fun l nl => ⟨_, _, rfl, ?_⟩⟩
    -- the while
    refine ⟨fun m σ H' => ∃ ks rs s4 s5 s6 s7 s8 s9, σ = [some (.ref a), some (.ref al), some (.ref l), some (.bl rs), s4, s5, s6, s7, s8, s9] ∧ Same H H' ∧ H' l = some (.lst (tn ks)) ∧ Good (Ed y) y.many L ks ∧ (rs = true ∨ ClosedOn (Ed y) L ks) ∧
      m = 2 * (y.many - ks.length) + (if rs = true then 1 else 0), ⟨_, [0], true, none, none, none, none, none, none, rfl, same_upd nl, upd_same, Good.zero ok.lo, .inl rfl, rfl⟩, ?_⟩
    rintro m σ H' ⟨ks, rs, s4, s5, s6, s7, s8, s9, rfl, s1, hl, g, hc, em⟩
    refine ⟨_, rfl, rs, rfl, ?_⟩
    cases rs with
    | false =>
      have c : ClosedOn (Ed y) L ks := by
        rcases hc with z | z
        · cases z
        · exact z
      refine iteF ?_
      refine ⟨_, rfl, l, cz ks, rfl, SqL.of (by rw [tn_cz]; exact hl), fun ns' p pm st np => ?_⟩
      rw [sorted_rooms g c pm st]
      exact q _ p (s1.trans (same_upd np)) (s1.free np) upd_same
    | true =>
      refine iteT ⟨fun σ' H'' => ∃ m', m' < m ∧ ∃ ks rs s4 s5 s6 s7 s8 s9, σ' = [some (.ref a), some (.ref al), some (.ref l), some (.bl rs), s4, s5, s6, s7, s8, s9] ∧ Same H H'' ∧ H'' l = some (.lst (tn ks)) ∧ Good (Ed y) y.many L ks ∧ (rs = true ∨ ClosedOn (Ed y) L ks) ∧
        m' = 2 * (y.many - ks.length) + (if rs = true then 1 else 0), fun _ _ h => h, ?_⟩
      -- for number in lot
      refine ⟨_, rfl, al, rfl, ⟨_, SqT.of (s1 _ _ hal)⟩, for_tup (xs := tn L) (fun i σ H'' => ∃ ks' rs s4 s5 s6 s7 s8 s9, σ = [some (.ref a), some (.ref al), some (.ref l), some (.bl rs), s4, s5, s6, s7, s8, s9] ∧ Same H H'' ∧ H'' l = some (.lst (tn ks')) ∧ Pass (Ed y) y.many L ks i rs ks')
        ⟨ks, false, s4, s5, s6, s7, s8, s9, rfl, s1, hl, Pass.start g⟩ (fun i σ H'' _ ⟨_, _, _, _, _, _, _, _, _, s2, _⟩ => SqT.of (s2 _ _ hal)) ?_ ?_⟩
      · rintro i v σ H1 hi ⟨k1, r1, s4, s5, s6, s7, s8, s9, rfl, s2, hl1, ps1⟩
        obtain ⟨x, hx, rfl⟩ := tn_get hi
        have hxm : x < y.m := hL x (List.mem_of_getElem? hx)
        obtain ⟨p, gp, tp⟩ := wall_get hp hxm
        refine ⟨_, rfl, a, _, 1, _, rfl, rfl, SqT.of (s2 _ _ ha), rfl, _, rfl, b, _, (x : Int), .ref p, rfl, rfl, SqT.of (s2 _ _ hb), atI_n gp, ?_⟩
        refine ⟨p, tw (y.w x), rfl, SqT.of (s2 _ _ tp), rfl, ?_⟩
        refine ⟨_, _, rfl, _, _, rfl, _, _, rfl, rfl, ?_⟩
        refine ⟨_, rfl, _, rfl, sz (by simp), fun p1 n1 => ?_⟩
        refine ⟨_, rfl, _, rfl, sz (by simp), fun p2 n2 => ?_⟩
        refine ⟨sz (by simp), fun pp np => ?_⟩
        -- the two directions
        generalize hH2 : upd (upd (upd H1 p1 (.tup [vn (y.w x).1, vn (y.w x).2.1])) p2 (.tup [vn (y.w x).2.1, vn (y.w x).1])) pp (.tup [.ref p1, .ref p2]) = H2
        have q1 : Same H1 (upd H1 p1 (.tup [vn (y.w x).1, vn (y.w x).2.1])) := same_upd n1
        have q2 := same_upd (o := HO.tup [vn (y.w x).2.1, vn (y.w x).1]) n2
        have q3 := same_upd (o := HO.tup [V.ref p1, V.ref p2]) np
        have s3 : Same H1 H2 := by
          rw [← hH2]
          exact (q1.trans q2).trans q3
        have e1 : H2 p1 = some (.tup [vn (y.w x).1, vn (y.w x).2.1]) := by
          rw [← hH2]
          exact (q2.trans q3) _ _ upd_same
        have e2 : H2 p2 = some (.tup [vn (y.w x).2.1, vn (y.w x).1]) := by
          rw [← hH2]
          exact q3 _ _ upd_same
        have ep : H2 pp = some (.tup [.ref p1, .ref p2]) := by
          rw [← hH2]
          exact upd_same
        have dl : ∀ o, H2 l = some o → H1 l = some o ∨ True := fun _ _ => .inr trivial
        have nl1 : l ≠ p1 := ne_of_none hl1 n1
        have nl2 : l ≠ p2 := ne_of_none (q1 _ _ hl1) n2
        have nlp : l ≠ pp := ne_of_none (q2 _ _ (q1 _ _ hl1)) np
        refine ⟨pp, rfl, ⟨_, SqT.of ep⟩, for_tup (xs := [.ref p1, .ref p2]) (fun j σ H3 => ∃ k3 r3 s8 s9, σ = [some (.ref a), some (.ref al), some (.ref l), some (.bl r3), some (vn x), some (vn (y.w x).1), some (vn (y.w x).2.1), some (vn (y.w x).2.2), s8, s9] ∧ Same H H3 ∧
          H3 l = some (.lst (tn k3)) ∧ H3 pp = some (.tup [.ref p1, .ref p2]) ∧ H3 p1 = some (.tup [vn (y.w x).1, vn (y.w x).2.1]) ∧ H3 p2 = some (.tup [vn (y.w x).2.1, vn (y.w x).1]) ∧ Good (Ed y) y.many L k3 ∧
          ((r3 = false ∧ k3 = ks ∧ ClosedOn (Ed y) (L.take i) ks ∧ ∀ z, z < j → (dir (y.w x) z).1 ∈ ks → (dir (y.w x) z).1 ∈ sidesOf (y.w x) → (dir (y.w x) z).2 ∈ ks) ∨ (r3 = true ∧ ks.length < k3.length)))
          ⟨k1, r1, _, _, rfl, s2.trans s3, s3 _ _ hl1, ep, e1, e2, ps1.1, ?_⟩ (fun j σ H3 _ ⟨_, _, _, _, _, _, _, h, _⟩ => SqT.of h) ?_ ?_⟩
        · rcases ps1.2 with ⟨z1, z2, z3⟩ | z
          · exact .inl ⟨z1, z2, z3, fun z hz => absurd hz (Nat.not_lt_zero _)⟩
          · exact .inr z
        · rintro j v σ H3 hj ⟨k3, r3, s8, s9, rfl, s4, hl3, ep3, e13, e23, g3, h3⟩
          obtain ⟨pj, rfl, tj, hj2⟩ : ∃ pj, v = .ref pj ∧ H3 pj = some (.tup [vn (dir (y.w x) j).1, vn (dir (y.w x) j).2]) ∧ j < 2 := by
            match j, hj with
            | 0, hj =>
              have e := Option.some.inj hj
              exact ⟨p1, e.symm, e13, by decide⟩
            | 1, hj =>
              have e := Option.some.inj hj
              exact ⟨p2, e.symm, e23, by decide⟩
            | j + 2, hj => simp at hj
          generalize hd : dir (y.w x) j = d at tj
          obtain ⟨one, other⟩ := d
          have hE : Eu y x one other := by
            have : j = 0 ∨ j = 1 := by omega
            rcases this with rfl | rfl
            · have e : ((y.w x).1, (y.w x).2.1) = (one, other) := hd
              cases e
              exact .inl ⟨rfl, rfl⟩
            · have e : ((y.w x).2.1, (y.w x).1) = (one, other) := hd
              cases e
              exact .inr ⟨rfl, rfl⟩
          refine ⟨pj, _, rfl, SqT.of tj, rfl, _, _, rfl, _, _, rfl, rfl, ?_⟩
          -- nothing is to be added
          have skip : (one ∈ k3 → one ∈ sidesOf (y.w x) → other ∈ k3) → ((r3 = false ∧ k3 = ks ∧ ClosedOn (Ed y) (L.take i) ks ∧ ∀ z, z < j + 1 → (dir (y.w x) z).1 ∈ ks → (dir (y.w x) z).1 ∈ sidesOf (y.w x) → (dir (y.w x) z).2 ∈ ks) ∨ (r3 = true ∧ ks.length < k3.length)) := fun hh => by
            rcases h3 with ⟨z1, z2, z3, z4⟩ | z
            · refine .inl ⟨z1, z2, z3, fun z hz => ?_⟩
              by_cases e : z = j
              · subst e
                rw [hd]
                rw [z2] at hh
                exact hh
              · exact z4 z (by omega)
            · exact .inr z
          refine ⟨_, rfl, _, rfl, l, _, rfl, .inl (SqL.of hl3), rfl, flat_n k3, _, rfl, ite_in (fun m1 => ?_) (fun m1 => ?_)⟩
          · refine ⟨_, rfl, _, rfl, l, _, rfl, .inl (SqL.of hl3), rfl, flat_n k3, _, rfl, ite_notin (fun m2 => ?_) (fun m2 => ?_)⟩
            · refine ⟨_, rfl, _, rfl, a, _, 1, _, rfl, rfl, SqT.of (s4 _ _ ha), rfl, _, rfl, b, _, (x : Int), .ref p, rfl, rfl, SqT.of (s4 _ _ hb), atI_n gp, ?_⟩
              refine ⟨p, y.w x, rfl, s4 _ _ tp, (ok.at hxm).2.2, fun H4 r s5 nr er => ?_⟩
              refine ⟨r, _, rfl, .inr (SqT.of er), rfl, flat_n _, _, rfl, ite_in (fun m3 => ?_) (fun m3 => ?_)⟩
              · have hl4 := s5 _ _ hl3
                have k3len : k3.length < 100 := by
                  have := g3.len
                  omega
                refine ⟨_, rfl, .inl ⟨rfl, _, SqL.of hl4⟩, _, rfl, l, _, _, rfl, rfl, hl4, small1000 (by rw [List.length_map]; omega), ?_⟩
                have nlr : l ≠ r := ne_of_none hl3 nr
                refine ⟨k3 ++ [other], true, _, _, rfl, Same.upd (s4.trans s5) nl, ?_, ?_, ?_, ?_, g3.add bnd (List.mem_of_getElem? hx) ⟨hE, m3⟩ m1 m2, .inr ⟨rfl, ?_⟩⟩
                · rw [upd_same, tn_snoc]
                · rw [upd_ne nlp.symm]
                  exact s5 _ _ ep3
                · rw [upd_ne nl1.symm]
                  exact s5 _ _ e13
                · rw [upd_ne nl2.symm]
                  exact s5 _ _ e23
                · rw [List.length_append]
                  rw [List.length_singleton]
                  rcases h3 with ⟨_, z, _⟩ | ⟨_, z⟩
                  · rw [z]
                    exact Nat.lt_succ_self _
                  · omega
              · exact ⟨k3, r3, _, _, rfl, s4.trans s5, s5 _ _ hl3, s5 _ _ ep3, s5 _ _ e13, s5 _ _ e23, g3, skip fun _ z => (m3 z).elim⟩
            · exact iteF ⟨k3, r3, _, _, rfl, s4, hl3, ep3, e13, e23, g3, skip fun _ _ => m2⟩
          · exact iteF ⟨k3, r3, _, _, rfl, s4, hl3, ep3, e13, e23, g3, skip fun z => (m1 z).elim⟩
        · rintro σ H3 ⟨k3, r3, s8, s9, rfl, s4, hl3, _, _, _, g3, h3⟩
          refine ⟨k3, r3, _, _, _, _, _, _, rfl, s4, hl3, g3, ?_⟩
          rcases h3 with ⟨z1, z2, z3, z4⟩ | z
          · refine .inl ⟨z1, z2, closed_snoc hx z3 fun c d ed hc => ?_⟩
            rcases ed with ⟨⟨rfl, rfl⟩ | ⟨rfl, rfl⟩, hs⟩
            · exact z4 0 (by show 0 < 2; decide) hc hs
            · exact z4 1 (by show 1 < 2; decide) hc hs
          · exact .inr z
      · rintro σ H1 ⟨k1, r1, s4, s5, s6, s7, s8, s9, rfl, s2, hl1, ps1⟩
        rw [List.length_map] at ps1
        obtain ⟨g1, c1, d1, d2⟩ := ps1.done
        refine ⟨_, ?_, k1, r1, _, _, _, _, _, _, rfl, s2, hl1, g1, c1, rfl⟩
        have := g1.len
        rw [if_pos rfl] at em
        cases r1 with
        | true =>
          have := d2 rfl
          rw [if_pos rfl]
          omega
        | false =>
          rw [d1 rfl, if_neg Bool.false_ne_true]
          omega
theorem cut2 (w : Wall) : cutV (tw w) none (some 2) = [vn w.1, vn w.2.1] := rfl
theorem ok_joined (F : Fun K "joined" "joined" s_joined f fd) (T : Txt mg) : FnOk P w K mg base CX0 2 f fd ["yard", "lot"] spJoined := by
  refine F.ok sc_joined (fun vs H Q E h => ?_) (fun cdv A outer s H vs Q E hr h => ?_)
  · obtain ⟨v, y, a, L, rfl, _⟩ := h
    rfl
  · obtain ⟨v, y, al, L, rfl, ⟨ok, a, b, ps, rfl, ha, hb, hp⟩, hal, hL, q⟩ := h
    have bnd : Bnd (Eu y) L y.many := Eu.lt ok hL
    have ok1 := ok.lo
    have ok2 := ok.hi
    refine ⟨_, (pss_cons (ps_par (i := 2) (j := 3) (by rfl) sc_joined.nd rfl rfl (by decide) rfl rfl (pa_cons (pe_lst (pa_cons pe_int pa_nil)) (pa_cons pe_bl pa_nil)) (by rfl))
      (pss_cons (ps_while PassesOwn.never (pt_val (pv 3))
      (pss_cons (ps_set (i := 3) sc_joined.nd rfl (Or.inl rfl) pe_bl)
        (pss_one (ps_for PassesOwn.never rfl (pi_tupK K (pv 1)) (pg_name (i := 4) sc_joined.nd rfl (Or.inl rfl))
        (pss_cons (ps_asg (pe_slice (slTK K) (pe_ix (ixTK K) (pe_ix (ixTK K) (pv 0) pe_int (fun _ _ => rfl)) (pv 4) (fun _ _ => rfl)) po_none (po_some pe_int)) (pg_tup rfl (pgs_cons (pg_name (i := 5) sc_joined.nd rfl (Or.inl rfl)) (pgs_cons (pg_name (i := 6) sc_joined.nd rfl (Or.inl rfl)) pgs_nil))))
          (pss_one (ps_if (pt_cmpR op_ne (pe_cmpR (inK K) (pv 5) (pv 2) (by rfl)) (pe_cmpR (inK K) (pv 6) (pv 2) (by rfl)) (nomark _))
          (pss_cons (ps_expr (pe_bm PySem.F.plainAttrs_list PySem.F.slot_list_append PySem.F.type_list_append mt_append (pv 2) (pa_cons (pe_ifExp (pt_cmpR (inK K) (pv 5) (pv 2) (by rfl)) (pv 6) (pv 5)) pa_nil)))
            (pss_one (ps_set (i := 3) sc_joined.nd rfl (Or.inl rfl) pe_bl)))
          pss_nil)))))))
      (pss_one (ps_ret (pe_callB cr_sortedI (by rfl) T.sorted b_sorted (pa_cons (pv 2) pa_nil)))))), ?_⟩
    refine ⟨sz (by simp), fun l nl => ⟨_, _, rfl, ?_⟩⟩
    refine ⟨fun m σ H' => ∃ ks rs s4 s5 s6, σ = [some (.ref a), some (.ref al), some (.ref l), some (.bl rs), s4, s5, s6] ∧ Same H H' ∧ H' l = some (.lst (tn ks)) ∧ Good (Eu y) y.many L ks ∧ (rs = true ∨ ClosedOn (Eu y) L ks) ∧
      m = 2 * (y.many - ks.length) + (if rs = true then 1 else 0), ⟨_, [0], true, none, none, none, rfl, same_upd nl, upd_same, Good.zero ok.lo, .inl rfl, rfl⟩, ?_⟩
    rintro m σ H' ⟨ks, rs, s4, s5, s6, rfl, s1, hl, g, hc, em⟩
    refine ⟨_, rfl, rs, rfl, ?_⟩
    cases rs with
    | false =>
      have c : ClosedOn (Eu y) L ks := by
        rcases hc with z | z
        · cases z
        · exact z
      refine iteF ?_
      refine ⟨_, rfl, l, cz ks, rfl, SqL.of (by rw [tn_cz]; exact hl), fun ns' p pm st np => ?_⟩
      rw [sorted_rooms g c pm st]
      exact q _ p (s1.trans (same_upd np)) (s1.free np) upd_same
    | true =>
      refine iteT ⟨fun σ' H'' => ∃ m', m' < m ∧ ∃ ks rs s4 s5 s6, σ' = [some (.ref a), some (.ref al), some (.ref l), some (.bl rs), s4, s5, s6] ∧ Same H H'' ∧ H'' l = some (.lst (tn ks)) ∧ Good (Eu y) y.many L ks ∧ (rs = true ∨ ClosedOn (Eu y) L ks) ∧
        m' = 2 * (y.many - ks.length) + (if rs = true then 1 else 0), fun _ _ h => h, ?_⟩
      refine ⟨_, rfl, al, rfl, ⟨_, SqT.of (s1 _ _ hal)⟩, for_tup (xs := tn L) (fun i σ H'' => ∃ ks' rs s4 s5 s6, σ = [some (.ref a), some (.ref al), some (.ref l), some (.bl rs), s4, s5, s6] ∧ Same H H'' ∧ H'' l = some (.lst (tn ks')) ∧ Pass (Eu y) y.many L ks i rs ks')
        ⟨ks, false, s4, s5, s6, rfl, s1, hl, Pass.start g⟩ (fun i σ H'' _ ⟨_, _, _, _, _, _, s2, _⟩ => SqT.of (s2 _ _ hal)) ?_ ?_⟩
      · rintro i v σ H1 hi ⟨k1, r1, s4, s5, s6, rfl, s2, hl1, ps1⟩
        obtain ⟨x, hx, rfl⟩ := tn_get hi
        have hxm : x < y.m := hL x (List.mem_of_getElem? hx)
        obtain ⟨p, gp, tp⟩ := wall_get hp hxm
        refine ⟨_, rfl, a, _, 1, _, rfl, rfl, SqT.of (s2 _ _ ha), rfl, _, rfl, b, _, (x : Int), .ref p, rfl, rfl, SqT.of (s2 _ _ hb), atI_n gp, ?_⟩
        refine ⟨2, rfl, p, tw (y.w x), rfl, SqT.of (s2 _ _ tp), fun hw => absurd (show (2 : Nat) = 3 from hw.2) (by decide), fun _ r nr => ?_⟩
        have s3 : Same H1 (upd H1 r (.tup (cutV (tw (y.w x)) none (some 2)))) := same_upd nr
        have hl2 := s3 _ _ hl1
        have er : (upd H1 r (.tup (cutV (tw (y.w x)) none (some 2)))) r = some (.tup [vn (y.w x).1, vn (y.w x).2.1]) := upd_same
        generalize upd H1 r (.tup (cutV (tw (y.w x)) none (some 2))) = H2 at s3 hl2 er
        refine ⟨r, _, rfl, SqT.of er, rfl, _, _, rfl, _, _, rfl, rfl, ?_⟩
        refine ⟨_, rfl, _, rfl, l, _, rfl, .inl (SqL.of hl2), rfl, flat_n k1, _, rfl, _, rfl, l, _, rfl, .inl (SqL.of hl2), rfl, flat_n k1, rfl, _, rfl, ?_⟩
        have g1 := ps1.1
        have hlen := g1.len
        show if (!decide (V.bl (inV (vn (y.w x).1) (tn k1)) = V.bl (inV (vn (y.w x).2.1) (tn k1)))) = true then _ else _
        rw [inV_n, inV_n]
        -- a room is added
        have addp : ∀ c d, Eu y x c d → c ∈ k1 → d ∉ k1 → Pass (Eu y) y.many L ks (i + 1) true (k1 ++ [d]) := fun c d e hc' hd => ⟨g1.add bnd (List.mem_of_getElem? hx) e hc' hd, .inr ⟨rfl, by
          rw [List.length_append]
          rw [List.length_singleton]
          rcases ps1.2 with ⟨_, z, _⟩ | ⟨_, z⟩
          · rw [z]
            exact Nat.lt_succ_self _
          · omega⟩⟩
        -- none is
        have skip : ((y.w x).1 ∈ k1 ↔ (y.w x).2.1 ∈ k1) → Pass (Eu y) y.many L ks (i + 1) r1 k1 := fun hh => by
          refine ⟨g1, ?_⟩
          rcases ps1.2 with ⟨z1, z2, z3⟩ | z
          · refine .inl ⟨z1, z2, closed_snoc hx z3 fun c d ed hc => ?_⟩
            rw [z2] at hh
            rcases ed with ⟨rfl, rfl⟩ | ⟨rfl, rfl⟩
            · exact hh.mp hc
            · exact hh.mpr hc
          · exact .inr z
        by_cases m1 : (y.w x).1 ∈ k1
        · by_cases m2 : (y.w x).2.1 ∈ k1
          · rw [decide_eq_true m1, decide_eq_true m2]
            exact iteF ⟨k1, r1, _, _, _, rfl, s2.trans s3, hl2, skip ⟨fun _ => m2, fun _ => m1⟩⟩
          · rw [decide_eq_true m1, decide_eq_false m2]
            refine iteT ?_
            refine ⟨_, rfl, .inl ⟨rfl, _, SqL.of hl2⟩, _, rfl, _, rfl, l, _, rfl, .inl (SqL.of hl2), rfl, flat_n k1, _, rfl, ite_in (fun _ => ?_) (fun z => (z m1).elim)⟩
            refine ⟨_, rfl, l, _, _, rfl, rfl, hl2, small1000 (by rw [List.length_map]; omega), ?_⟩
            exact ⟨k1 ++ [(y.w x).2.1], true, _, _, _, rfl, Same.upd (s2.trans s3) nl, by rw [upd_same, tn_snoc], addp _ _ (.inl ⟨rfl, rfl⟩) m1 m2⟩
        · by_cases m2 : (y.w x).2.1 ∈ k1
          · rw [decide_eq_false m1, decide_eq_true m2]
            refine iteT ?_
            refine ⟨_, rfl, .inl ⟨rfl, _, SqL.of hl2⟩, _, rfl, _, rfl, l, _, rfl, .inl (SqL.of hl2), rfl, flat_n k1, _, rfl, ite_in (fun z => (m1 z).elim) (fun _ => ?_)⟩
            refine ⟨_, rfl, l, _, _, rfl, rfl, hl2, small1000 (by rw [List.length_map]; omega), ?_⟩
            exact ⟨k1 ++ [(y.w x).1], true, _, _, _, rfl, Same.upd (s2.trans s3) nl, by rw [upd_same, tn_snoc], addp _ _ (.inr ⟨rfl, rfl⟩) m2 m1⟩
          · rw [decide_eq_false m1, decide_eq_false m2]
            exact iteF ⟨k1, r1, _, _, _, rfl, s2.trans s3, hl2, skip ⟨fun z => (m1 z).elim, fun z => (m2 z).elim⟩⟩
      · rintro σ H1 ⟨k1, r1, s4, s5, s6, rfl, s2, hl1, ps1⟩
        rw [List.length_map] at ps1
        obtain ⟨g1, c1, d1, d2⟩ := ps1.done
        refine ⟨_, ?_, k1, r1, _, _, _, rfl, s2, hl1, g1, c1, rfl⟩
        have := g1.len
        rw [if_pos rfl] at em
        cases r1 with
        | true =>
          have := d2 rfl
          rw [if_pos rfl]
          omega
        | false =>
          rw [d1 rfl, if_neg Bool.false_ne_true]
          omega
end
end Wk
/-! is_ready, is_growth, need_order, can_go_of, can_come_of. -/
namespace Wk
open PySem L2
/-- a told side is among the rooms -/
def rb (y : Yard) (R : List Nat) (x : Nat) : Bool := (sidesOf (y.w x)).any fun z => decide (z ∈ R)
theorem rb_iff {y : Yard} {L : List Nat} {x : Nat} (ok : y.Ok) (hx : x < y.m) : rb y (roomsOf (Ed y) y.many L) x = true ↔ Ready y L x := by
  unfold rb Ready
  rw [List.any_eq_true]
  constructor
  · rintro ⟨z, h1, h2⟩
    exact ⟨z, h1, (mem_rooms.mp (of_decide_eq_true h2)).2⟩
  · rintro ⟨z, h1, h2⟩
    refine ⟨z, h1, decide_eq_true (mem_rooms.mpr ⟨?_, h2⟩)⟩
    have := ok.at hx
    rcases sides_mem h1 with e | e <;> rw [e] <;> omega
theorem filt_all (S : List Nat) (f : Nat → Bool) : (S.filter fun _ => true).map (fun z => V.bl (f z)) = (S.map f).map V.bl := by
  rw [List.filter_eq_self.mpr (fun _ _ => rfl), List.map_map]
  rfl
theorem any_map (S : List Nat) (f : Nat → Bool) : (S.map f).any id = S.any f := by
  rw [List.any_map]
  rfl
theorem all_map (S : List Nat) (f : Nat → Bool) : (S.map f).all id = S.all f := by
  rw [List.all_map]
  rfl
theorem sides_len (w : Wall) : (sidesOf w).length ≤ 2 := by
  unfold sidesOf
  split
  · exact Nat.le_succ 1
  · split
    · exact Nat.le_succ 1
    · exact Nat.le_refl 2
theorem dp_all (K : PySem.W.Frag) (H : Hp) : ∀ ks : List Nat, DpAll K H (tn ks) (ks.map fun k : Nat => PyData.int (k : Int))
  | [] => .nil
  | k :: r => .cons (.int _) (dp_all K H r)
def pdn (ks : List Nat) : List PyData := ks.map fun k : Nat => PyData.int (k : Int)
theorem dp_lst {K : PySem.W.Frag} {H : Hp} {a : Addr} {ks : List Nat} (h : H a = some (.lst (tn ks))) : Dp K H (.ref a) (.list (pdn ks)) := .lst (SqL.of h) (dp_all K H ks)
theorem dp_tup {K : PySem.W.Frag} {H : Hp} {a : Addr} {ks : List Nat} (h : H a = some (.tup (tn ks))) : Dp K H (.ref a) (.tuple (pdn ks)) := .tup (SqT.of h) (dp_all K H ks)
theorem lay_all : ∀ ks : List Nat, PyData.canLayAll0 (pdn ks) = true
  | [] => rfl
  | k :: r => by
    show ((PyData.int (k : Int)).canLay0 && PyData.canLayAll0 (pdn r)) = true
    rw [lay_all r]
    rfl
theorem depth_all : ∀ ks : List Nat, PyData.depthAll (pdn ks) ≤ 1
  | [] => by decide
  | k :: r => by
    have := depth_all r
    show max (PyData.int (k : Int)).depth (PyData.depthAll (pdn r)) ≤ 1
    exact Nat.max_le.mpr ⟨by show 0 ≤ 1; decide, this⟩
theorem shaped_lst (ks : List Nat) : SeqAt.shaped (.list (pdn ks)) = true := by
  have h1 := lay_all ks
  have h2 := depth_all ks
  unfold SeqAt.shaped
  rw [Bool.and_eq_true]
  exact ⟨h1, decide_eq_true (by show PyData.depthAll (pdn ks) + 1 ≤ 64; omega)⟩
theorem shaped_tup (ks : List Nat) : SeqAt.shaped (.tuple (pdn ks)) = true := by
  have h1 := lay_all ks
  have h2 := depth_all ks
  unfold SeqAt.shaped
  rw [Bool.and_eq_true]
  exact ⟨h1, decide_eq_true (by show PyData.depthAll (pdn ks) + 1 ≤ 64; omega)⟩
open Classical in
noncomputable def canGoP (y : Yard) (L M : List Nat) : List Nat := M.filter fun x => decide (Ready y (wo L x) x ∧ Growth y (wo L x))
open Classical in
theorem canGoP_snoc_yes {y : Yard} {L M : List Nat} {x : Nat} (h : Ready y (wo L x) x ∧ Growth y (wo L x)) : canGoP y L (M ++ [x]) = canGoP y L M ++ [x] := by
  unfold canGoP
  rw [List.filter_append, List.filter_cons_of_pos (by rw [decide_eq_true_eq]; exact h)]
  rfl
open Classical in
theorem canGoP_snoc_no {y : Yard} {L M : List Nat} {x : Nat} (h : ¬ (Ready y (wo L x) x ∧ Growth y (wo L x))) : canGoP y L (M ++ [x]) = canGoP y L M := by
  unfold canGoP
  rw [List.filter_append, List.filter_cons_of_neg (by rw [decide_eq_true_eq]; exact h)]
  exact List.append_nil _
theorem canGoP_len (y : Yard) (L M : List Nat) : (canGoP y L M).length ≤ M.length := List.length_filter_le _ _
def spReady : Sp := fun vs H Q _ => ∃ (v : V) (y : Yard) (a : Addr) (L : List Nat) (x : Nat), vs = [v, .ref a, vn x] ∧ Yd H v y ∧ H a = some (.tup (tn L)) ∧ (∀ z ∈ L, z < y.m) ∧ x < y.m ∧ ∀ H' b, Same H H' → (b = true ↔ Ready y L x) → Q (.bl b) H'
def spGrowth : Sp := fun vs H Q _ => ∃ (v : V) (y : Yard) (a : Addr) (L : List Nat), vs = [v, .ref a] ∧ Yd H v y ∧ H a = some (.tup (tn L)) ∧ L.length ≤ 100 ∧ (∀ z ∈ L, z < y.m) ∧ ∀ H' b, Same H H' → (b = true ↔ Growth y L) → Q (.bl b) H'
def spNeedOrder : Sp := fun vs H Q _ => ∃ (v : V) (y : Yard) (a : Addr) (L : List Nat), vs = [v, .ref a] ∧ Yd H v y ∧ H a = some (.tup (tn L)) ∧ L.Perm (List.range y.m) ∧ ∀ H', Same H H' → Q .non H'
def spCanGo : Sp := fun vs H Q _ => ∃ (v : V) (y : Yard) (a : Addr) (L : List Nat), vs = [v, .ref a] ∧ Yd H v y ∧ H a = some (.tup (tn L)) ∧ Lot y.m L ∧ Gives H Q (.tup (tn (canGo y L)))
def spCanCome : Sp := fun vs H Q _ => ∃ (v : V) (y : Yard) (a : Addr) (L : List Nat), vs = [v, .ref a] ∧ Yd H v y ∧ H a = some (.tup (tn L)) ∧ (∀ z ∈ L, z < y.m) ∧ Gives H Q (.tup (tn (canCome y L)))
section
variable {P : Program} {w : World} {K : PySem.W.Frag} {mg : Str → Option Value} {base : Heap} {f : Addr} {fd : FuncData}
theorem ok_is_ready (c_sides_of : Cal P w K mg base 1 "sides_of" ["wall"] spSides) (c_reached : Cal P w K mg base 2 "reached" ["yard", "lot"] spReached) (F : Fun K "is_ready" "is_ready" s_is_ready f fd) (T : Txt mg) :
    FnOk P w K mg base CX0 3 f fd ["yard", "lot", "number"] spReady := by
  refine F.ok sc_is_ready (fun vs H Q E h => ?_) (fun cdv A outer s H vs Q E hr h => ?_)
  · obtain ⟨v, y, a, L, x, rfl, _⟩ := h
    rfl
  · obtain ⟨v, y, al, L, x, rfl, hY, hal, hL, hx, q⟩ := h
    obtain ⟨ok, a, b, ps, rfl, ha, hb, hp⟩ := id hY
    obtain ⟨p, gp, tp⟩ := wall_get hp hx
    refine ⟨_, (pss_cons (ps_set (i := 3) sc_is_ready.nd rfl (Or.inr rfl) (pf c_reached hr (by decide) (by rfl) (pa_cons (pv 0) (pa_cons (pv 1) pa_nil))))
      (pss_one (ps_ret (pe_callB (anyK K) (by rfl) T.any b_any (pa_cons (pe_lc (own := [("room", 4)]) (g := gName 4) (by rfl) sc_is_ready.nd (pi_tupK K (pf c_sides_of hr (by decide) (by rfl) (pa_cons (pe_ix (ixTK K) (pe_ix (ixTK K) (pv 0) pe_int (fun _ _ => rfl)) (pv 2) (fun _ _ => rfl)) pa_nil))) (blkOk_by (by kernel_rfl)) (fun _ _ _ _ _ => pg_name (i := 4) sc_is_ready.nd rfl (Or.inl rfl)) (fun _ _ _ _ _ => pts_nil) (fun _ _ _ _ _ => (pe_cmpR (inK K) (pv 4) (pv 3) (by rfl)))) pa_nil))))), ?_⟩
    refine ⟨_, rfl, _, rfl, _, y, al, L, rfl, hY, hal, hL, fun H1 r s1 nr er => ?_⟩
    refine ⟨_, rfl, a, _, 1, _, rfl, rfl, SqT.of (s1 _ _ ha), rfl, _, rfl, b, _, (x : Int), .ref p, rfl, rfl, SqT.of (s1 _ _ hb), atI_n gp, ?_⟩
    refine ⟨p, y.w x, rfl, s1 _ _ tp, (ok.at hx).2.2, fun H2 sd s2 nsd esd => ⟨sd, rfl, ⟨_, SqT.of esd⟩, fun D nD => ?_⟩⟩
    refine lc_filtT (fun _ => true) (fun z => V.bl (decide (z ∈ roomsOf (Ed y) y.many L))) esd nD (Nat.le_trans (sides_len _) (by decide)) ?_ ?_
    · intro z H3 N hz s3 hT _
      refine ⟨rfl, ⟨_, rfl, _, rfl, r, _, rfl, .inl (SqL.of ((s2.trans s3) _ _ er)), rfl, flat_n _, ?_⟩⟩
      have h := hT rfl H3 (Same.refl _)
      rw [← inV_n] at h
      exact h
    · intro H3 s3 e3
      rw [filt_all] at e3
      refine ⟨D, _, rfl, SqL.of e3, ?_⟩
      rw [any_map]
      exact q _ _ ((s1.trans s2).trans s3) (rb_iff ok hx)
theorem ok_is_growth (c_sides_of : Cal P w K mg base 1 "sides_of" ["wall"] spSides) (c_reached : Cal P w K mg base 2 "reached" ["yard", "lot"] spReached) (F : Fun K "is_growth" "is_growth" s_is_growth f fd) (T : Txt mg) :
    FnOk P w K mg base CX0 3 f fd ["yard", "lot"] spGrowth := by
  refine F.ok sc_is_growth (fun vs H Q E h => ?_) (fun cdv A outer s H vs Q E hr h => ?_)
  · obtain ⟨v, y, a, L, rfl, _⟩ := h
    rfl
  · obtain ⟨v, y, al, L, rfl, hY, hal, hlen, hL, q⟩ := h
    obtain ⟨ok, a, b, ps, rfl, ha, hb, hp⟩ := id hY
    refine ⟨_, (pss_cons (ps_set (i := 2) sc_is_growth.nd rfl (Or.inr rfl) (pf c_reached hr (by decide) (by rfl) (pa_cons (pv 0) (pa_cons (pv 1) pa_nil))))
      (pss_one (ps_ret (pe_callB (allK K) (by rfl) T.all b_all (pa_cons (pe_lc (own := [("number", 4)]) (g := gName 4) (by rfl) sc_is_growth.nd (pi_tupK K (pv 1)) (blkOk_by (by kernel_rfl)) (fun _ _ _ _ _ => pg_name (i := 4) sc_is_growth.nd rfl (Or.inl rfl)) (fun _ _ _ _ _ => pts_nil) (fun _ _ _ _ _ => (pe_callB (anyK K) (by rfl) T.any b_any (pa_cons (pe_lc (own := [("room", 3)]) (g := gName 3) (by rfl) sc_is_growth.nd (pi_tupK K (pf c_sides_of hr (by decide) (by rfl) (pa_cons (pe_ix (ixTK K) (pe_ix (ixTK K) (pv 0) pe_int (fun _ _ => rfl)) (pv 4) (fun _ _ => rfl)) pa_nil))) (blkOk_by (by kernel_rfl)) (fun _ _ _ _ _ => pg_name (i := 3) sc_is_growth.nd rfl (Or.inl rfl)) (fun _ _ _ _ _ => pts_nil) (fun _ _ _ _ _ => (pe_cmpR (inK K) (pv 3) (pv 2) (by rfl)))) pa_nil)))) pa_nil))))), ?_⟩
    refine ⟨_, rfl, _, rfl, _, y, al, L, rfl, hY, hal, hL, fun H1 r s1 nr er => ?_⟩
    refine ⟨_, rfl, al, rfl, ⟨_, SqT.of (s1 _ _ hal)⟩, fun D nD => ?_⟩
    refine lc_filtT (fun _ => true) (fun x => V.bl (rb y (roomsOf (Ed y) y.many L) x)) (s1 _ _ hal) nD (by omega) ?_ ?_
    · intro x H2 N hx s2 hT _
      have hxm := hL x hx
      obtain ⟨p, gp, tp⟩ := wall_get hp hxm
      have s12 := s1.trans s2
      refine ⟨rfl, ?_⟩
      refine ⟨_, rfl, a, _, 1, _, rfl, rfl, SqT.of (s12 _ _ ha), rfl, _, rfl, b, _, (x : Int), .ref p, rfl, rfl, SqT.of (s12 _ _ hb), atI_n gp, ?_⟩
      refine ⟨p, y.w x, rfl, s12 _ _ tp, (ok.at hxm).2.2, fun H3 sd s3 nsd esd => ⟨sd, rfl, ⟨_, SqT.of esd⟩, fun D2 nD2 => ?_⟩⟩
      refine lc_filtT (fun _ => true) (fun z => V.bl (decide (z ∈ roomsOf (Ed y) y.many L))) esd nD2 (Nat.le_trans (sides_len _) (by decide)) ?_ ?_
      · intro z H4 N hz s4 hT _
        refine ⟨rfl, ⟨_, rfl, _, rfl, r, _, rfl, .inl (SqL.of (((s2.trans s3).trans s4) _ _ er)), rfl, flat_n _, ?_⟩⟩
        have h := hT rfl H4 (Same.refl _)
        rw [← inV_n] at h
        exact h
      · intro H4 s4 e4
        rw [filt_all] at e4
        refine ⟨D2, _, rfl, SqL.of e4, ?_⟩
        rw [any_map]
        exact hT rfl H4 (s3.trans s4)
    · intro H3 s3 e3
      rw [filt_all] at e3
      refine ⟨D, _, rfl, SqL.of e3, ?_⟩
      rw [all_map]
      refine q _ _ (s1.trans s3) ?_
      rw [List.all_eq_true]
      exact ⟨fun h x hx => (rb_iff ok (hL x hx)).mp (h x hx), fun h x hx => (rb_iff ok (hL x hx)).mpr (h x hx)⟩
theorem ok_need_order (c_every : Cal P w K mg base 1 "every" ["yard"] spEvery) (F : Fun K "need_order" "need_order" s_need_order f fd) (T : Txt mg) : FnOk P w K mg base CX0 2 f fd ["yard", "value"] spNeedOrder := by
  refine F.ok sc_need_order (fun vs H Q E h => ?_) (fun cdv A outer s H vs Q E hr h => ?_)
  · obtain ⟨v, y, a, L, rfl, _⟩ := h
    rfl
  · obtain ⟨v, y, al, L, rfl, hY, hal, hpm, q⟩ := h
    have ok3 : y.m ≤ 6 := hY.ok.nw
    have hlen : L.length = y.m := by rw [hpm.length_eq, List.length_range]
    refine ⟨_, (pss_cons (ps_if (PW.pt (pw_or (pt_not (pt_val (pe_callB (isiK K) (by rfl) T.isinstance b_isinstance (pa_cons (pv 1) (pa_cons (pe_bltn (v := .ty "tuple") rfl T.tuple b_tuple rfl) pa_nil))))) (pw_or1 (pt_val (pe_callB (anyK K) (by rfl) T.any b_any (pa_cons (pe_lc (own := [("one", 2)]) (g := gName 2) (by rfl) sc_need_order.nd (pi_tupK K (pv 1)) (blkOk_by (by kernel_rfl)) (fun _ _ _ _ _ => pg_name (i := 2) sc_need_order.nd rfl (Or.inl rfl)) (fun _ _ _ _ _ => pts_nil) (fun _ _ _ _ _ => (pe_or (pe_not (pe_callB (isiK K) (by rfl) T.isinstance b_isinstance (pa_cons (pv 2) (pa_cons (pe_bltn (v := .ty "int") rfl T.int b_int rfl) pa_nil)))) (pe_one (pe_callB (isiK K) (by rfl) T.isinstance b_isinstance (pa_cons (pv 2) (pa_cons (pe_bltn (v := .ty "bool") rfl T.bool b_bool rfl) pa_nil))))))) pa_nil))))))
      (pss_one (ps_never))
      pss_nil)
      (pss_one (ps_if (pt_cmpR (op_neD hr.units) (pe_callB cr_sortedIT (by rfl) T.sorted b_sorted (pa_cons (pv 1) pa_nil)) (pe_callTy call_list_of (by rfl) T.list b_list (pa_cons (pf c_every hr (by decide) (by rfl) (pa_cons (pv 0) pa_nil)) pa_nil)) (nomark _))
      (pss_one (ps_never))
      pss_nil))), ?_⟩
    refine ⟨_, rfl, _, _, _, _, _, rfl, .ty _, .base (.tup hal), kit_ty k_tt, true, rfl, iteF ?_⟩
    refine ⟨_, rfl, al, rfl, ⟨_, SqT.of hal⟩, fun D nD => ?_⟩
    refine lc_filtT (fun _ => true) (fun _ => V.bl false) hal nD (by omega) ?_ ?_
    · intro z H1 N hz s1 hT _
      refine ⟨rfl, ?_⟩
      refine ⟨_, rfl, _, _, _, _, _, rfl, .ty _, .base (.int z), kit_ty k_ii, true, rfl, false, rfl, iteF ?_⟩
      exact ⟨_, rfl, _, _, _, _, _, rfl, .ty _, .base (.int z), kit_ty k_ib, hT rfl H1 (Same.refl _)⟩
    · intro H1 s1 e1
      rw [filt_all] at e1
      refine ⟨D, _, rfl, SqL.of e1, ?_⟩
      rw [any_map]
      refine ⟨false, congrArg V.bl (by rw [List.any_eq_false]; intro x _; exact Bool.false_ne_true), iteF ?_⟩
      refine ⟨_, rfl, al, cz L, rfl, by rw [tn_cz]; exact s1 _ _ hal, fun ns' p pm st np => ?_⟩
      obtain ⟨t, e, pt, qt⟩ := ints_perm pm st
      have et : t = List.range y.m := srt_uniq (srt_of (pt.trans hpm) qt (Lot.range y.m).nodup) (range_srt _) fun x => (pt.trans hpm).mem_iff
      have e2 : ns'.map V.int = tn (List.range y.m) := by
        rw [e, et]
        exact tn_cz _
      rw [e2]
      have s2 : Same H1 (upd H1 p (.lst (tn (List.range y.m)))) := same_upd np
      have ep : (upd H1 p (.lst (tn (List.range y.m)))) p = some (.lst (tn (List.range y.m))) := upd_same
      generalize upd H1 p (.lst (tn (List.range y.m))) = H2 at s2 ep
      refine ⟨_, rfl, v, y, rfl, hY.mono (s1.trans s2), fun H3 r s3 nr er => ?_⟩
      refine ⟨r, _, rfl, .inr (SqT.of er), fun l nl => ?_⟩
      have s4 : Same H3 (upd H3 l (.lst (tn (List.range y.m)))) := same_upd nl
      refine ⟨_, _, dp_lst ((s3.trans s4) _ _ ep), dp_lst upd_same, shaped_lst _, shaped_lst _, false, ?_, iteF (q _ (((s1.trans s2).trans s3).trans s4))⟩
      rw [SeqAt.eqv_refl _ (SeqAt.canLay_of_shaped (shaped_lst _))]
      rfl
theorem ok_can_go_of (c_without : Cal P w K mg base 1 "without" ["lot", "number"] spWithout) (c_is_ready : Cal P w K mg base 3 "is_ready" ["yard", "lot", "number"] spReady) (c_is_growth : Cal P w K mg base 3 "is_growth" ["yard", "lot"] spGrowth)
    (F : Fun K "can_go_of" "can_go_of" s_can_go_of f fd) (T : Txt mg) : FnOk P w K mg base CX0 4 f fd ["yard", "lot"] spCanGo := by
  refine F.ok sc_can_go_of (fun vs H Q E h => ?_) (fun cdv A outer s H vs Q E hr h => ?_)
  · obtain ⟨v, y, a, L, rfl, _⟩ := h
    rfl
  · obtain ⟨v, y, al, L, rfl, hY, hal, hL, q⟩ := h
    have ok3 : y.m ≤ 6 := hY.ok.nw
    have hlen : L.length ≤ 6 := Nat.le_trans hL.len ok3
    refine ⟨_, (pss_cons (ps_set (i := 2) sc_can_go_of.nd rfl (Or.inl rfl) (pe_lst pa_nil))
      (pss_cons (ps_for PassesOwn.never rfl (pi_tupK K (pv 1)) (pg_name (i := 3) sc_can_go_of.nd rfl (Or.inl rfl))
      (pss_cons (ps_set (i := 4) sc_can_go_of.nd rfl (Or.inl rfl) (pf c_without hr (by decide) (by rfl) (pa_cons (pv 1) (pa_cons (pv 3) pa_nil))))
        (pss_one (ps_if (PW.pt (pw_and (pt_val (pf c_is_ready hr (by decide) (by rfl) (pa_cons (pv 0) (pa_cons (pv 4) (pa_cons (pv 3) pa_nil))))) (pw_and1 (pt_val (pf c_is_growth hr (by decide) (by rfl) (pa_cons (pv 0) (pa_cons (pv 4) pa_nil)))))))
        (pss_one (ps_expr (pe_bm PySem.F.plainAttrs_list PySem.F.slot_list_append PySem.F.type_list_append mt_append (pv 2) (pa_cons (pv 3) pa_nil))))
        pss_nil))))
      (pss_one (ps_ret (pe_callTy call_tuple_of (by rfl) T.tuple b_tuple (pa_cons (pv 2) pa_nil)))))), ?_⟩
    refine ⟨sz (by simp), fun l nl => ?_⟩
    refine ⟨_, rfl, al, rfl, ⟨_, SqT.of (same_upd nl _ _ hal)⟩, for_tup (xs := tn L) (fun i σ H' => ∃ s3 s4 ks, σ = [some v, some (.ref al), some (.ref l), s3, s4] ∧ Same H H' ∧ H' l = some (.lst (tn ks)) ∧ ks = canGoP y L (L.take i))
      ⟨_, _, [], rfl, same_upd nl, upd_same, by unfold canGoP; simp⟩ (fun i σ H' _ ⟨_, _, _, _, s2, _⟩ => SqT.of (s2 _ _ hal)) ?_ ?_⟩
    · rintro i u σ H1 hi ⟨s3, s4, ks, rfl, s1, hl1, hks⟩
      obtain ⟨x, hx, rfl⟩ := tn_get hi
      have hxL : x ∈ L := List.mem_of_getElem? hx
      have hxm : x < y.m := hL.2 x hxL
      refine ⟨_, rfl, _, rfl, al, L, x, rfl, s1 _ _ hal, by omega, fun H2 r s2 nr er => ?_⟩
      have hY2 := hY.mono (s1.trans s2)
      have hw := hL.wo x
      refine ⟨_, rfl, _, rfl, _, rfl, v, y, r, wo L x, x, rfl, hY2, er, hw.2, hxm, fun H3 b1 s3 h1 => ⟨b1, rfl, ?_⟩⟩
      have step : ∀ H', Same H2 H' → (∀ (b : Bool), (b = true ↔ (Ready y (wo L x) x ∧ Growth y (wo L x))) → b = false → ∃ s3 s4 ks, [some v, some (V.ref al), some (V.ref l), some (vn x), some (V.ref r)] = [some v, some (.ref al), some (.ref l), s3, s4] ∧ Same H H' ∧ H' l = some (.lst (tn ks)) ∧ ks = canGoP y L (L.take (i + 1))) := fun H' sh b hb e =>
        ⟨_, _, ks, rfl, (s1.trans s2).trans sh, (s2.trans sh) _ _ hl1, by
          rw [hks, take_snoc hx, canGoP_snoc_no]
          intro hc
          rw [hb.mpr hc] at e
          cases e⟩
      refine ite2 (fun e1 => ?_) (fun e1 => ?_)
      · subst e1
        refine ⟨_, rfl, _, rfl, v, y, r, wo L x, rfl, hY2.mono s3, s3 _ _ er, by have := hw.len; omega, hw.2, fun H4 b2 s4 h2 => ⟨b2, rfl, ?_⟩⟩
        have hl4 := ((s2.trans s3).trans s4) _ _ hl1
        refine ite2 (fun e2 => ?_) (fun e2 => ?_)
        · have hklen : ks.length ≤ 6 := by
            rw [hks]
            have h1 := canGoP_len y L (L.take i)
            have h2 : (L.take i).length ≤ L.length := by
              rw [List.length_take]
              exact Nat.min_le_right _ _
            omega
          refine ⟨_, rfl, .inl ⟨rfl, _, SqL.of hl4⟩, _, rfl, l, _, _, rfl, rfl, hl4, small1000 (by rw [List.length_map]; omega), ?_⟩
          refine ⟨_, _, ks ++ [x], rfl, Same.upd (((s1.trans s2).trans s3).trans s4) nl, by rw [upd_same, tn_snoc], ?_⟩
          rw [hks, take_snoc hx, canGoP_snoc_yes]
          exact ⟨h1.mp rfl, h2.mp e2⟩
        · refine step H4 (s3.trans s4) b2 ⟨fun z => (e2 z).elim, fun z => h2.mpr z.2⟩ ?_
          cases b2 with
          | false => rfl
          | true => exact (e2 rfl).elim
      · refine iteF (step H3 s3 b1 ⟨fun z => (e1 z).elim, fun z => h1.mpr z.1⟩ ?_)
        cases b1 with
        | false => rfl
        | true => exact (e1 rfl).elim
    · rintro σ H1 ⟨s3, s4, ks, rfl, s1, hl1, hks⟩
      rw [List.length_map, List.take_length] at hks
      refine ⟨_, rfl, l, _, rfl, .inl ⟨SqL.of hl1, fun t nt => ?_⟩⟩
      have e : ks = canGo y L := hks
      rw [e]
      exact q _ t (s1.trans (same_upd nt)) (s1.free nt) upd_same
theorem ok_can_come_of (c_sides_of : Cal P w K mg base 1 "sides_of" ["wall"] spSides) (c_reached : Cal P w K mg base 2 "reached" ["yard", "lot"] spReached) (c_rest_of : Cal P w K mg base 2 "rest_of" ["yard", "lot"] spRest)
    (F : Fun K "can_come_of" "can_come_of" s_can_come_of f fd) (T : Txt mg) : FnOk P w K mg base CX0 3 f fd ["yard", "lot"] spCanCome := by
  refine F.ok sc_can_come_of (fun vs H Q E h => ?_) (fun cdv A outer s H vs Q E hr h => ?_)
  · obtain ⟨v, y, a, L, rfl, _⟩ := h
    rfl
  · obtain ⟨v, y, al, L, rfl, hY, hal, hL, q⟩ := h
    have ok3 : y.m ≤ 6 := hY.ok.nw
    obtain ⟨ok, a, b, ps, rfl, ha, hb, hp⟩ := id hY
    refine ⟨_, (pss_cons (ps_set (i := 2) sc_can_come_of.nd rfl (Or.inr rfl) (pf c_reached hr (by decide) (by rfl) (pa_cons (pv 0) (pa_cons (pv 1) pa_nil))))
      (pss_cons (ps_set (i := 3) sc_can_come_of.nd rfl (Or.inl rfl) (pf c_rest_of hr (by decide) (by rfl) (pa_cons (pv 0) (pa_cons (pv 1) pa_nil))))
      (pss_one (ps_ret (pe_callTy call_tuple_of (by rfl) T.tuple b_tuple (pa_cons (pe_lc (own := [("one", 4)]) (g := gName 4) (by rfl) sc_can_come_of.nd (pi_tupK K (pv 3)) (blkOk_by (by kernel_rfl)) (fun _ _ _ _ _ => pg_name (i := 4) sc_can_come_of.nd rfl (Or.inl rfl)) (fun _ _ _ _ _ => pts_one (pt_val (pe_callB (anyK K) (by rfl) T.any b_any (pa_cons (pe_lc (own := [("room", 5)]) (g := gName 5) (by rfl) sc_can_come_of.nd (pi_tupK K (pf c_sides_of hr (by decide) (by rfl) (pa_cons (pe_ix (ixTK K) (pe_ix (ixTK K) (pv 0) pe_int (fun _ _ => rfl)) (pv 4) (fun _ _ => rfl)) pa_nil))) (blkOk_by (by kernel_rfl)) (fun _ _ _ _ _ => pg_name (i := 5) sc_can_come_of.nd rfl (Or.inl rfl)) (fun _ _ _ _ _ => pts_nil) (fun _ _ _ _ _ => (pe_cmpR (inK K) (pv 5) (pv 2) (by rfl)))) pa_nil)))) (fun _ _ _ _ _ => (pv 4))) pa_nil)))))), ?_⟩
    refine ⟨_, rfl, _, rfl, _, y, al, L, rfl, hY, hal, hL, fun H1 r s1 nr er => ?_⟩
    refine ⟨_, rfl, _, rfl, _, y, al, L, rfl, hY.mono s1, s1 _ _ hal, fun H2 t s2 nt et => ?_⟩
    refine ⟨_, rfl, t, rfl, ⟨_, SqT.of et⟩, fun D nD => ?_⟩
    refine lc_filtT (fun x => rb y (roomsOf (Ed y) y.many L) x) vn et nD (by have := List.length_filter_le (fun x => decide (x ∉ L)) (List.range y.m); rw [List.length_range] at this; omega) ?_ ?_
    · intro x H3 N hx s3 hT hF
      have hxm : x < y.m := List.mem_range.mp (List.mem_filter.mp hx).1
      obtain ⟨p, gp, tp⟩ := wall_get hp hxm
      have s13 := (s1.trans s2).trans s3
      refine ⟨rfl, ?_⟩
      refine ⟨_, rfl, a, _, 1, _, rfl, rfl, SqT.of (s13 _ _ ha), rfl, _, rfl, b, _, (x : Int), .ref p, rfl, rfl, SqT.of (s13 _ _ hb), atI_n gp, ?_⟩
      refine ⟨p, y.w x, rfl, s13 _ _ tp, (ok.at hxm).2.2, fun H4 sd s4 nsd esd => ⟨sd, rfl, ⟨_, SqT.of esd⟩, fun D2 nD2 => ?_⟩⟩
      refine lc_filtT (fun _ => true) (fun z => V.bl (decide (z ∈ roomsOf (Ed y) y.many L))) esd nD2 (Nat.le_trans (sides_len _) (by decide)) ?_ ?_
      · intro z H5 N hz s5 hT _
        refine ⟨rfl, ⟨_, rfl, _, rfl, r, _, rfl, .inl (SqL.of ((((s2.trans s3).trans s4).trans s5) _ _ er)), rfl, flat_n _, ?_⟩⟩
        have h := hT rfl H5 (Same.refl _)
        rw [← inV_n] at h
        exact h
      · intro H5 s5 e5
        rw [filt_all] at e5
        refine ⟨D2, _, rfl, SqL.of e5, _, rfl, ?_⟩
        rw [any_map]
        refine ite2 (fun e => ⟨_, rfl, hT e H5 (s4.trans s5)⟩) (fun e => hF ?_ H5 (s4.trans s5))
        cases h : rb y (roomsOf (Ed y) y.many L) x with
        | false => rfl
        | true => exact (e h).elim
    · intro H3 s3 e3
      refine ⟨D, _, rfl, .inl ⟨SqL.of e3, fun l nl => ?_⟩⟩
      have e : (((List.range y.m).filter fun x => decide (x ∉ L)).filter fun x => rb y (roomsOf (Ed y) y.many L) x) = canCome y L := by
        refine srt_uniq (((range_srt _).filter _).filter _) (rfilt_srt _ _) fun x => ?_
        rw [mem_come, List.mem_filter, List.mem_filter, List.mem_range, decide_eq_true_eq]
        constructor
        · rintro ⟨⟨h1, h2⟩, h3⟩
          exact ⟨h1, h2, (rb_iff ok h1).mp h3⟩
        · rintro ⟨h1, h2, h3⟩
          exact ⟨⟨h1, h2⟩, (rb_iff ok h1).mpr h3⟩
      rw [e]
      exact q _ l (((s1.trans s2).trans s3).trans (same_upd nl)) (s1.free (s2.free (s3.free nl))) upd_same
end
end Wk
/-! layers_of. -/
namespace Wk
open PySem L2
theorem tu_del {H : Hp} {v : V} {ns : List Nat} {l : Addr} {xs : List V} (h : Tu H v ns) (hl : H l = some (.lst xs)) : Tu (del H l) v ns := by
  obtain ⟨a, e, h⟩ := h
  refine ⟨a, e, ?_⟩
  rw [del_ne (ne_of h hl (by intro z; cases z))]
  exact h
/-- a list of tuples of numbers -/
def LayAt (H : Hp) (q : V) (Ls : List (List Nat)) : Prop := ∃ a xs, q = .ref a ∧ H a = some (.lst xs) ∧ Paired (Tu H) xs Ls
theorem LayAt.mono {H H' : Hp} {q : V} {Ls : List (List Nat)} (s : Same H H') (h : LayAt H q Ls) : LayAt H' q Ls := by
  obtain ⟨a, xs, e, h1, h2⟩ := h
  exact ⟨a, xs, e, s _ _ h1, paired_mono (fun _ _ t => t.mono s) h2⟩
theorem paired_snoc {α β : Type} {R : α → β → Prop} {a : α} {b : β} (r : R a b) : ∀ {l : List α} {m : List β}, Paired R l m → Paired R (l ++ [a]) (m ++ [b])
  | _, _, .nil => .cons r .nil
  | _, _, .cons q t => .cons q (paired_snoc r t)
theorem paired_at {α β : Type} {R : α → β → Prop} : ∀ {l : List α} {m : List β} {i : Nat} {a : α}, Paired R l m → l[i]? = some a → ∃ b, m[i]? = some b ∧ R a b
  | _, _, _, _, .nil, h => by simp at h
  | _, _, 0, a, .cons r t, h => by
    have e := Option.some.inj h
    subst e
    exact ⟨_, rfl, r⟩
  | _, _, i + 1, a, .cons r t, h => paired_at (i := i) t h
theorem paired_take {α β : Type} {R : α → β → Prop} : ∀ {l : List α} {m : List β} (n : Nat), Paired R l m → Paired R (l.take n) (m.take n)
  | _, _, 0, _ => .nil
  | _, _, _ + 1, .nil => .nil
  | _, _, n + 1, .cons r t => .cons r (paired_take n t)
theorem paired_drop {α β : Type} {R : α → β → Prop} : ∀ {l : List α} {m : List β} (n : Nat), Paired R l m → Paired R (l.drop n) (m.drop n)
  | _, _, 0, r => r
  | _, _, _ + 1, .nil => .nil
  | _, _, n + 1, .cons _ t => paired_drop n t
/-- the data of a list of tuples -/
def pdl (Ls : List (List Nat)) : List PyData := Ls.map fun L => PyData.tuple (pdn L)
theorem dp_lay_all {K : PySem.W.Frag} {H : Hp} : ∀ {xs : List V} {Ls : List (List Nat)}, Paired (Tu H) xs Ls → DpAll K H xs (pdl Ls)
  | _, _, .nil => .nil
  | _, _, .cons ⟨a, e, h⟩ t => by
    subst e
    exact .cons (dp_tup h) (dp_lay_all t)
theorem dp_lay {K : PySem.W.Frag} {H : Hp} {a : Addr} {xs : List V} {Ls : List (List Nat)} (h : H a = some (.lst xs)) (p : Paired (Tu H) xs Ls) : Dp K H (.ref a) (.list (pdl Ls)) := .lst (SqL.of h) (dp_lay_all p)
theorem lay_all2 : ∀ Ls : List (List Nat), PyData.canLayAll0 (pdl Ls) = true
  | [] => rfl
  | L :: r => by
    show ((PyData.tuple (pdn L)).canLay0 && PyData.canLayAll0 (pdl r)) = true
    rw [lay_all2 r, Bool.and_true]
    exact lay_all L
theorem depth_all2 : ∀ Ls : List (List Nat), PyData.depthAll (pdl Ls) ≤ 2
  | [] => by decide
  | L :: r => by
    have := depth_all2 r
    have h2 := depth_all L
    show max (PyData.tuple (pdn L)).depth (PyData.depthAll (pdl r)) ≤ 2
    exact Nat.max_le.mpr ⟨by show PyData.depthAll (pdn L) + 1 ≤ 2; omega, this⟩
theorem shaped_lay (Ls : List (List Nat)) : SeqAt.shaped (.list (pdl Ls)) = true := by
  have h1 := lay_all2 Ls
  have h2 := depth_all2 Ls
  unfold SeqAt.shaped
  rw [Bool.and_eq_true]
  exact ⟨h1, decide_eq_true (by show PyData.depthAll (pdl Ls) + 1 ≤ 64; omega)⟩
theorem eqv_nil_lay (Ls : List (List Nat)) : PyData.eqv (.list (pdl Ls)) (.list []) = decide (Ls = []) := by
  cases Ls with
  | nil => rfl
  | cons L r =>
    rw [decide_eq_false (by simp)]
    rfl
theorem nk_inj : ∀ {a b : List Nat}, nk a = nk b → a = b
  | [], [], _ => rfl
  | [], _ :: _, h => by cases h
  | _ :: _, [], h => by cases h
  | x :: r, z :: s, h => by
    have h1 := (List.cons.inj h).1
    have h2 := (List.cons.inj h).2
    have h3 := Sum.inl.inj h1
    rw [nk_inj h2, show x = z by omega]
/-- a key is put -/
theorem keys_put {kvs : List (List Key × V)} {ks : List (List Nat)} (h : kvs.map (·.1) = ks.map nk) (S : List Nat) (v : V) :
    ∃ ks' : List (List Nat), (putK kvs (nk S) v).map (·.1) = ks'.map nk ∧ (∀ z, z ∈ ks' ↔ z = S ∨ z ∈ ks) ∧ ks'.length ≤ ks.length + 1 := by
  by_cases e : S ∈ ks
  · refine ⟨ks, ?_, fun z => ⟨.inr, fun q => ?_⟩, Nat.le_succ _⟩
    · have hm : nk S ∈ kvs.map (·.1) := by
        rw [h]
        exact List.mem_map.mpr ⟨S, e, rfl⟩
      obtain ⟨kv, h1, h2⟩ := List.mem_map.mp hm
      unfold putK
      rw [if_pos (List.any_eq_true.mpr ⟨kv, h1, decide_eq_true h2⟩), List.map_map, ← h]
      exact List.map_congr_left fun kv _ => by
        show (if kv.1 = nk S then (kv.1, v) else kv).1 = kv.1
        split <;> rfl
    · rcases q with rfl | q
      · exact e
      · exact q
  · refine ⟨ks ++ [S], ?_, fun z => ?_, by rw [List.length_append]; exact Nat.le_refl _⟩
    · unfold putK
      rw [if_neg, List.map_append, List.map_append, h]
      · rfl
      · intro q
        obtain ⟨kv, h1, h2⟩ := List.any_eq_true.mp q
        have h3 : nk S ∈ kvs.map (·.1) := List.mem_map.mpr ⟨kv, h1, of_decide_eq_true h2⟩
        rw [h] at h3
        obtain ⟨z, h4, h5⟩ := List.mem_map.mp h3
        exact e (nk_inj h5 ▸ h4)
    · rw [List.mem_append, List.mem_singleton]
      exact or_comm
/-- the layers so far -/
structure GoodLay (y : Yard) (LL : List (List (List Nat))) : Prop where
  mem : ∀ k Ls, LL[k]? = some Ls → ∀ L, L ∈ Ls ↔ OpenL y L ∧ L.length = k
  len : ∀ k Ls, LL[k]? = some Ls → Ls.length ≤ 6 ^ k
theorem good_zero (y : Yard) : GoodLay y [[[]]] := by
  refine ⟨fun k Ls h L => ?_, fun k Ls h => ?_⟩
  · cases k with
    | zero =>
      have e := Option.some.inj h
      subst e
      rw [List.mem_singleton]
      exact ⟨fun e => by subst e; exact ⟨open_nil, rfl⟩, fun e => List.length_eq_zero_iff.mp e.2⟩
    | succ k => simp at h
  · cases k with
    | zero =>
      have e := Option.some.inj h
      subst e
      exact Nat.le_refl 1
    | succ k => simp at h
theorem GoodLay.next {y : Yard} {LL : List (List (List Nat))} {Ls ks : List (List Nat)} {k : Nat} (g : GoodLay y LL) (ek : LL.length = k + 1) (hLs : LL[k]? = some Ls) (hA : ∀ S ∈ ks, OpenL y S ∧ S.length = k + 1)
    (hB : ∀ L ∈ Ls, ∀ x ∈ canCome y L, ∀ S, Lot y.m S → SetEq S (x :: L) → S ∈ ks) (hl : ks.length ≤ 6 ^ (k + 1)) : GoodLay y (LL ++ [ks]) := by
  refine ⟨fun j Ms h L => ?_, fun j Ms h => ?_⟩
  · by_cases hj : j < LL.length
    · rw [List.getElem?_append_left hj] at h
      exact g.mem j Ms h L
    · have ej : j = k + 1 := by
        have := (List.getElem?_eq_some_iff.mp h).1
        rw [List.length_append, List.length_singleton] at this
        omega
      rw [List.getElem?_append_right (by omega), ej, ek, Nat.sub_self] at h
      have e := Option.some.inj h
      subst e
      subst ej
      refine ⟨hA L, fun ⟨o, e⟩ => ?_⟩
      obtain ⟨x, h1, h2, h3, h4⟩ := come_open o (by intro z; rw [z] at e; cases e)
      exact hB (wo L x) ((g.mem k Ls hLs _).mpr ⟨h2, by omega⟩) x h3 L o.1 (wo_back h1 (SetEq.refl _)).symm
  · by_cases hj : j < LL.length
    · rw [List.getElem?_append_left hj] at h
      exact g.len j Ms h
    · have ej : j = k + 1 := by
        have := (List.getElem?_eq_some_iff.mp h).1
        rw [List.length_append, List.length_singleton] at this
        omega
      rw [List.getElem?_append_right (by omega), ej, ek, Nat.sub_self] at h
      have e := Option.some.inj h
      subst e
      subst ej
      exact hl
theorem open_shorter {y : Yard} : ∀ (n : Nat) {L : List Nat}, OpenL y L → ∀ j, j ≤ L.length → L.length - j = n → ∃ M, OpenL y M ∧ M.length = j
  | 0, L, o, j, hj, e => ⟨L, o, by omega⟩
  | n + 1, L, o, j, hj, e => by
    obtain ⟨x, _, h2, _, h4⟩ := come_open o (by intro z; rw [z] at e; simp at e)
    exact open_shorter n h2 j (by omega) (by omega)
/-- all layers that are not empty -/
structure LayAll (y : Yard) (LL : List (List (List Nat))) : Prop extends GoodLay y LL where
  has : ∀ L, OpenL y L → ∃ Ls, LL[L.length]? = some Ls
  few : LL.length ≤ 8
theorem GoodLay.all {y : Yard} {LL : List (List (List Nat))} {k : Nat} (g : GoodLay y LL) (ek : LL.length = k + 1) (hk : k ≤ 7) (hLs : LL[k]? = some []) : LayAll y (LL.take k) := by
  refine ⟨⟨fun j Ms h L => ?_, fun j Ms h => ?_⟩, fun L o => ?_, by rw [List.length_take]; omega⟩
  · rw [List.getElem?_take] at h
    split at h
    · exact g.mem j Ms h L
    · cases h
  · rw [List.getElem?_take] at h
    split at h
    · exact g.len j Ms h
    · cases h
  · have hlt : L.length < k := by
      by_cases h : L.length < k
      · exact h
      · exfalso
        obtain ⟨M, h1, h2⟩ := open_shorter _ o k (by omega) rfl
        have := (g.mem k [] hLs M).mpr ⟨h1, h2⟩
        cases this
    have h3 : L.length < LL.length := by omega
    exact ⟨LL[L.length], by rw [List.getElem?_take, if_pos hlt, List.getElem?_eq_getElem h3]⟩
def spLayers : Sp := fun vs H Q _ => ∃ (v : V) (y : Yard), vs = [v] ∧ Yd H v y ∧ ∀ (H' : Hp) (q : Addr) (qs : List V) (LL : List (List (List Nat))), Same H H' → H q = none → H' q = some (.lst qs) → Paired (LayAt H') qs LL → LayAll y LL → Q (.ref q) H'
theorem cut_last (xs : List V) : cutV xs none (some (-1)) = xs.take (xs.length - 1) := by
  unfold cutV
  show ((xs.drop 0).take ((((-1 : Int) + (xs.length : Int)).toNat) - 0)) = xs.take (xs.length - 1)
  rw [List.drop_zero, Nat.sub_zero, show ((-1 : Int) + (xs.length : Int)).toNat = xs.length - 1 by omega]
theorem last_of {α : Type} {xs : List α} {k : Nat} {x : α} (e : xs.length = k + 1) (h : xs[k]? = some x) : atI xs (-1) = some x := by
  have e2 : ixN xs.length (-1) = some k := by
    unfold ixN
    rw [if_neg (by decide), if_pos (by omega)]
    congr 1
    omega
  unfold atI
  rw [e2]
  exact h
section
variable {P : Program} {w : World} {K : PySem.W.Frag} {mg : Str → Option Value} {base : Heap} {f : Addr} {fd : FuncData}
theorem ok_layers_of (c_can_come_of : Cal P w K mg base 3 "can_come_of" ["yard", "lot"] spCanCome) (F : Fun K "layers_of" "layers_of" s_layers_of f fd) (T : Txt mg) : FnOk P w K mg base CX0 4 f fd ["yard"] spLayers := by
  refine F.ok sc_layers_of (fun vs H Q E h => ?_) (fun cdv A outer s H vs Q E hr h => ?_)
  · obtain ⟨v, y, rfl, _⟩ := h
    rfl
  · obtain ⟨v, y, rfl, hY, q⟩ := h
    have ok3 : y.m ≤ 6 := hY.ok.nw
    refine ⟨_, (pss_cons (ps_set (i := 1) sc_layers_of.nd rfl (Or.inl rfl) (pe_lst (pa_cons (pe_lst (pa_cons (pe_tup pa_nil) pa_nil)) pa_nil)))
      (pss_cons (ps_while PassesOwn.never (pt_cmpR (op_neD hr.units) (pe_ix (ixLK K) (pv 1) (pe_un un_neg pe_int) (fun _ _ => rfl)) (pe_lst pa_nil) (nomark _))
      (pss_cons (ps_set (i := 2) sc_layers_of.nd rfl (Or.inl rfl) pe_dnewT)
        (pss_cons (ps_for PassesOwn.never rfl (pi_listK K (pe_ix (ixLK K) (pv 1) (pe_un un_neg pe_int) (fun _ _ => rfl))) (pg_name (i := 3) sc_layers_of.nd rfl (Or.inl rfl))
        (pss_one (ps_for PassesOwn.never rfl (pi_tupK K (pf c_can_come_of hr (by decide) (by rfl) (pa_cons (pv 0) (pa_cons (pv 3) pa_nil)))) (pg_name (i := 4) sc_layers_of.nd rfl (Or.inl rfl))
          (pss_one (ps_dput (hu_of hr) (pv 2) (pe_callTy call_tuple_of (by rfl) T.tuple b_tuple (pa_cons (pe_callB cr_sortedI (by rfl) T.sorted b_sorted (pa_cons (pe_lst (StX.pa_star (pv 3) (pa_cons (pv 4) pa_nil))) pa_nil)) pa_nil)) pe_bl (by rfl))))))
        (pss_one (ps_expr (pe_bm PySem.F.plainAttrs_list PySem.F.slot_list_append PySem.F.type_list_append mt_append (pv 1) (pa_cons (pe_callB (cr_sortedDT rfl) (by rfl) T.sorted b_sorted (pa_cons (pv 2) pa_nil)) pa_nil)))))))
      (pss_one (ps_ret (pe_slice (slLK K) (pv 1) po_none (po_some (pe_un un_neg pe_int))))))), ?_⟩
    refine ⟨sz (by simp), fun t0 n0 => ⟨sz (by simp), fun q0 nq0 => ⟨sz (by simp), fun l nl => ?_⟩⟩⟩
    have s01 : Same H (upd H t0 (.tup [])) := same_upd n0
    have s02 := same_upd (o := HO.lst [V.ref t0]) nq0
    have s03 := same_upd (o := HO.lst [V.ref q0]) nl
    have hl0 : H l = none := s01.free (s02.free nl)
    have et0 := s02 _ _ (upd_same (H := H) (a := t0) (o := .tup []))
    refine ⟨fun m σ H' => ∃ qs LL k s2 s3 s4, σ = [some v, some (.ref l), s2, s3, s4] ∧ Same H H' ∧ H' l = some (.lst qs) ∧ Paired (LayAt (del H' l)) qs LL ∧ GoodLay y LL ∧ LL.length = k + 1 ∧ k ≤ 7 ∧ m = 8 - k,
      ⟨_, [.ref q0], [[[]]], 0, none, none, none, rfl, (s01.trans s02).trans s03, upd_same, ?_, good_zero y, rfl, by decide, rfl⟩, ?_⟩
    · refine .cons ⟨q0, [.ref t0], rfl, ?_, .cons ⟨t0, rfl, ?_⟩ .nil⟩ .nil
      · rw [del_upd, del_ne (ne_of_none upd_same nl)]
        exact upd_same
      · rw [del_upd, del_ne (ne_of_none et0 nl)]
        exact et0
    rintro m σ H' ⟨qs, LL, k, s2, s3, s4, rfl, s1, hl, pq, g, ek, hk, em⟩
    have elq : qs.length = k + 1 := by rw [paired_len pq, ek]
    have hkq : k < LL.length := by omega
    obtain ⟨Ls, hLs⟩ : ∃ Ls, LL[k]? = some Ls := ⟨LL[k], List.getElem?_eq_getElem hkq⟩
    obtain ⟨qv, hqv, qa, xs, rfl, hqa, hxs⟩ := paired_get pq hLs
    have hlast : atI qs (-1) = some (.ref qa) := last_of elq hqv
    have hqa' := del_same _ _ hqa
    have hxs' : Paired (Tu H') xs Ls := paired_mono (fun _ _ t => t.mono del_same) hxs
    -- found[-1] != []
    refine ⟨_, rfl, 1, rfl, l, qs, -1, .ref qa, rfl, rfl, SqL.of hl, hlast, sz (by simp), fun e ne => ?_⟩
    have se : Same H' (upd H' e (.lst [])) := same_upd ne
    have hee : (upd H' e (.lst [])) e = some (.lst []) := upd_same
    generalize upd H' e (.lst []) = H1 at se hee
    have hl1 := se _ _ hl
    have sd1 : Same (del H' l) (del H1 l) := Same.del se
    refine ⟨_, .list [], dp_lay (se _ _ hqa') (paired_mono (fun _ _ t => t.mono se) hxs'), .lst (SqL.of hee) .nil, shaped_lay _, rfl, _, rfl, ?_⟩
    rw [eqv_nil_lay]
    by_cases hnil : Ls = []
    · -- the end
      subst hnil
      rw [decide_eq_true rfl]
      refine iteF ?_
      refine ⟨_, rfl, _, rfl, _, rfl, l, qs, rfl, SqL.of hl1, fun p np => ?_⟩
      show Q (.ref p) (upd H1 p (.lst (cutV qs none (some (-1)))))
      rw [cut_last, elq]
      have s2' : Same H1 (upd H1 p (.lst (qs.take (k + 1 - 1)))) := same_upd np
      refine q _ p _ (LL.take k) ((s1.trans se).trans s2') (s1.free (se.free np)) upd_same ?_ (g.all ek hk hLs)
      exact paired_take k (paired_mono (fun _ _ t => t.mono ((sd1.trans del_same).trans s2')) pq)
    · rw [decide_eq_false hnil]
      -- one more layer
      have hk6 : k ≤ 6 := by
        obtain ⟨L, r, e⟩ : ∃ L r, Ls = L :: r := by
          cases Ls with
          | nil => exact (hnil rfl).elim
          | cons L r => exact ⟨L, r, rfl⟩
        obtain ⟨o, el⟩ := (g.mem k Ls hLs L).mp (by rw [e]; exact List.mem_cons_self)
        have := o.1.len
        omega
      refine iteT ⟨fun σ' H'' => ∃ m', m' < m ∧ ∃ qs LL k s2 s3 s4, σ' = [some v, some (.ref l), s2, s3, s4] ∧ Same H H'' ∧ H'' l = some (.lst qs) ∧ Paired (LayAt (del H'' l)) qs LL ∧ GoodLay y LL ∧ LL.length = k + 1 ∧ k ≤ 7 ∧ m' = 8 - k, fun _ _ h => h, ?_⟩
      intro d nd
      have sD : Same H1 (upd H1 d (.dT [])) := same_upd nd
      have hlen0 := g.len k Ls hLs
      have hlx : xs.length = Ls.length := paired_len hxs
      have h66 : 6 ^ (k + 1) ≤ 6 ^ 7 := Nat.pow_le_pow_right (by decide) (by omega)
      have h6e : 6 ^ (k + 1) = 6 ^ k * 6 := Nat.pow_succ ..
      have h67 : (6 : Nat) ^ 7 = 279936 := by decide
      refine ⟨_, rfl, 1, rfl, l, qs, -1, .ref qa, rfl, rfl, SqL.of (sD _ _ hl1), hlast, qa, rfl, ⟨_, SqL.of (sD _ _ (se _ _ hqa'))⟩,
        for_list (xs := xs) (fun i σ H3 => ∃ s3 s4 kvs ks, σ = [some v, some (.ref l), some (.ref d), s3, s4] ∧ Same H1 H3 ∧ H3 d = some (.dT kvs) ∧ kvs.map (·.1) = ks.map nk ∧ ks.length ≤ i * 6 ∧ (∀ S ∈ ks, OpenL y S ∧ S.length = k + 1) ∧
          ∀ L ∈ Ls.take i, ∀ x ∈ canCome y L, ∀ S, Lot y.m S → SetEq S (x :: L) → S ∈ ks)
        ⟨_, _, [], [], rfl, sD, upd_same, rfl, Nat.zero_le _, fun S h => (by cases h), fun L h => (by simp at h)⟩ (fun i σ H3 _ ⟨_, _, _, _, _, s5, _⟩ => SqL.of (s5 _ _ (se _ _ hqa'))) ?_ ?_⟩
      · rintro i lv σ H3 hi ⟨s3, s4, kvs, ks, rfl, s5, hd, hk1, hk2, hk3, hk4⟩
        obtain ⟨L, hL, ⟨la, rfl, tL⟩⟩ := paired_at hxs' hi
        have hLm : L ∈ Ls := List.mem_of_getElem? hL
        obtain ⟨oL, eL⟩ := (g.mem k Ls hLs L).mp hLm
        have hiLs : i < Ls.length := (List.getElem?_eq_some_iff.mp hL).1
        have tL3 := (se.trans s5) _ _ tL
        refine ⟨_, rfl, _, rfl, v, y, la, L, rfl, hY.mono ((s1.trans se).trans s5), tL3, oL.1.2, fun H4 t s6 nt et => ?_⟩
        have clen : (canCome y L).length ≤ 6 := by
          have h1 : (canCome y L).length ≤ (List.range y.m).length := List.length_filter_le _ _
          rw [List.length_range] at h1
          omega
        refine ⟨t, rfl, ⟨_, SqT.of et⟩, for_tup (xs := tn (canCome y L)) (fun j σ H5 => ∃ s4 kvs ks, σ = [some v, some (.ref l), some (.ref d), some (.ref la), s4] ∧ Same H1 H5 ∧ H5 t = some (.tup (tn (canCome y L))) ∧ H5 d = some (.dT kvs) ∧ kvs.map (·.1) = ks.map nk ∧ ks.length ≤ i * 6 + j ∧
          (∀ S ∈ ks, OpenL y S ∧ S.length = k + 1) ∧ (∀ L ∈ Ls.take i, ∀ x ∈ canCome y L, ∀ S, Lot y.m S → SetEq S (x :: L) → S ∈ ks) ∧ ∀ x ∈ (canCome y L).take j, ∀ S, Lot y.m S → SetEq S (x :: L) → S ∈ ks)
          ⟨_, kvs, ks, rfl, s5.trans s6, et, s6 _ _ hd, hk1, hk2, hk3, hk4, fun x h => (by simp at h)⟩ (fun j σ H5 _ ⟨_, _, _, _, _, h, _⟩ => SqT.of h) ?_ ?_⟩
        · rintro j xv σ H5 hj ⟨s4, kvs, ks, rfl, s7, et5, hd5, h1, h2, h3, h4, h5⟩
          obtain ⟨x, hx, rfl⟩ := tn_get hj
          have hxc : x ∈ canCome y L := List.mem_of_getElem? hx
          have hjlt : j < 6 := by
            have := (List.getElem?_eq_some_iff.mp hx).1
            omega
          have tL5 := (se.trans s7) _ _ tL
          refine ⟨_, rfl, _, rfl, la, tn L, rfl, .inl (SqT.of tL5), _, rfl, sz (by rw [List.length_append, List.length_map]; have := oL.1.len; simp; omega), fun e1 ne1 => ?_⟩
          have e1l : tn L ++ [vn x] = tn (L ++ [x]) := (tn_snoc L x).symm
          rw [e1l]
          refine ⟨e1, cz (L ++ [x]), rfl, SqL.of (by rw [tn_cz]; exact upd_same), fun ns' p pm st np => ?_⟩
          obtain ⟨S, eS, pS, qS⟩ := ints_perm pm st
          have e2l : ns'.map V.int = tn S := by
            rw [eS]
            exact tn_cz S
          rw [e2l]
          obtain ⟨oS, lS, sS⟩ := open_come oL hxc pS qS
          refine ⟨p, _, rfl, .inl ⟨SqL.of upd_same, fun u nu => ?_⟩⟩
          have r1 : Same H5 (upd H5 e1 (.lst (tn (L ++ [x])))) := same_upd ne1
          have r2 := same_upd (o := HO.lst (tn S)) np
          have r3 := same_upd (o := HO.tup (tn S)) nu
          have r := (r1.trans r2).trans r3
          have hu : (upd (upd (upd H5 e1 (.lst (tn (L ++ [x])))) p (.lst (tn S))) u (.tup (tn S))) u = some (.tup ((nk S).map kV)) := by
            rw [nk_kV]
            exact upd_same
          have hkl : kvs.length = ks.length := by
            have := congrArg List.length h1
            rw [List.length_map, List.length_map] at this
            exact this
          have hi6 : i * 6 + 6 ≤ 6 ^ (k + 1) := by
            have : (i + 1) * 6 ≤ Ls.length * 6 := Nat.mul_le_mul_right 6 hiLs
            have : Ls.length * 6 ≤ 6 ^ k * 6 := Nat.mul_le_mul_right 6 hlen0
            omega
          refine ⟨d, _, rfl, DPut.t (r _ _ hd5) hu (by rw [hkl]; exact Nat.lt_of_le_of_lt (show ks.length ≤ 279936 by omega) (by decide)), ?_⟩
          obtain ⟨ks', k1, k2, k3⟩ := keys_put h1 S (.bl true)
          have hdt : t ≠ d := ne_of et5 hd5 (by intro z; cases z)
          refine ⟨_, putK kvs (nk S) (.bl true), ks', rfl, Same.upd (s7.trans r) nd, ?_, upd_same, k1, by omega, fun z hz => ?_, fun M hM z hz U lU sU => (k2 U).mpr (.inr (h4 M hM z hz U lU sU)), fun z hz U lU sU => ?_⟩
          · rw [upd_ne hdt]
            exact r _ _ et5
          · rcases (k2 z).mp hz with rfl | hz
            · exact ⟨oS, by omega⟩
            · exact h3 z hz
          · rw [take_snoc hx] at hz
            rcases (List.mem_append (a := _)).mp hz with hz | hz
            · exact (k2 U).mpr (.inr (h5 z hz U lU sU))
            · have ez := List.mem_singleton.mp hz
              subst ez
              refine (k2 U).mpr (.inl (lU.uniq oS.1 fun w => ?_))
              rw [sU w, sS w]
        · rintro σ H5 ⟨s4, kvs, ks, rfl, s7, et5, hd5, h1, h2, h3, h4, h5⟩
          rw [List.length_map] at h2 h5
          rw [List.take_length] at h5
          refine ⟨_, _, kvs, ks, rfl, s7, hd5, h1, by omega, h3, fun M hM x hx S lS sS => ?_⟩
          rw [take_snoc hL] at hM
          rcases List.mem_append.mp hM with hM | hM
          · exact h4 M hM x hx S lS sS
          · have eM := List.mem_singleton.mp hM
            subst eM
            exact h5 x hx S lS sS
      · rintro σ H3 ⟨s3, s4, kvs, ks, rfl, s5, hd, hk1, hk2, hk3, hk4⟩
        rw [hlx] at hk2 hk4
        rw [List.take_length] at hk4
        have hl3 := s5 _ _ hl1
        have hks : ks.length ≤ 6 ^ (k + 1) := by
          have : Ls.length * 6 ≤ 6 ^ k * 6 := Nat.mul_le_mul_right 6 hlen0
          omega
        refine ⟨_, rfl, .inl ⟨rfl, _, SqL.of hl3⟩, _, rfl, d, kvs, ks, k + 1, rfl, hd, hk1, Nat.succ_pos _, fun S hS => (hk3 S hS).2, fun ys us p pp pm np => ?_⟩
        have r1 : Same H3 (upd H3 p (.lst ys)) := same_upd np
        have hl4 := r1 _ _ hl3
        have hlp : l ≠ p := ne_of_none hl3 np
        refine ⟨l, _, _, rfl, rfl, hl4, small1000 (by omega), ?_⟩
        refine ⟨_, ?_, qs ++ [.ref p], LL ++ [us], k + 1, _, _, _, rfl, Same.upd ((s1.trans se).trans (s5.trans r1)) hl0, upd_same, ?_, ?_, by rw [List.length_append, ek]; rfl, by omega, rfl⟩
        · omega
        · rw [del_upd]
          refine paired_snoc ⟨p, ys, rfl, ?_, paired_mono (fun _ _ t => tu_del (t.mono r1) hl4) pp⟩ (paired_mono (fun _ _ t => t.mono (sd1.trans (Same.del (s5.trans r1)))) pq)
          rw [del_ne hlp.symm]
          exact upd_same
        · exact g.next ek hLs (fun S hS => hk3 S (pm.mem_iff.mp hS)) (fun L hL x hx S lS sS => pm.mem_iff.mpr (hk4 L hL x hx S lS sS)) (by rw [pm.length_eq]; exact hks)
end
end Wk
/-! warmth_of, warmth, cut_time, cut_times. -/
namespace Wk
open PySem L2
theorem cut_drop (xs : List V) (k : Nat) : cutV xs (some (k : Int)) none = xs.drop k := by
  unfold cutV
  rw [HT.sIx_nat, HT.sIx_none]
  by_cases h : k ≤ xs.length
  · rw [Nat.min_eq_left h, List.take_of_length_le (by rw [List.length_drop]; exact Nat.le_refl _)]
  · rw [Nat.min_eq_right (by omega), Nat.sub_self, List.take_zero, List.drop_eq_nil_of_le (by omega)]
theorem tn_drop (L : List Nat) (k : Nat) : (tn L).drop k = tn (L.drop k) := List.map_drop.symm
/-- t[k:], as a tuple of the rest -/
theorem sl_drop {H : Hp} {a : Addr} {L : List Nat} {Q : VK} (k : Nat) (ha : H a = some (.tup (tn L))) (h : ∀ H' p, Same H H' → H' p = some (.tup (tn (L.drop k))) → Q (.ref p) H') :
    (HT.sIx (tn L).length 0 (some (k : Int)) = 0 ∧ HT.sIx (tn L).length (tn L).length none = (tn L).length → Q (.ref a) H) ∧
      (¬ (HT.sIx (tn L).length 0 (some (k : Int)) = 0 ∧ HT.sIx (tn L).length (tn L).length none = (tn L).length) → ∀ p, H p = none → Q (.ref p) (upd H p (.tup (cutV (tn L) (some (k : Int)) none)))) := by
  refine ⟨fun hw => h H a (Same.refl _) ?_, fun _ p np => h _ p (same_upd np) ?_⟩
  · rw [HT.sIx_nat, List.length_map] at hw
    have e : L.drop k = L := by
      by_cases h0 : k = 0
      · rw [h0, List.drop_zero]
      · have : L.length = 0 := by
          have := hw.1
          omega
        rw [List.length_eq_zero_iff.mp this, List.drop_nil]
    rw [e]
    exact ha
  · rw [cut_drop, tn_drop]
    exact upd_same
/-- t[k:], t a tuple of numbers -/
def rSlN : V → Option Int → Option Int → Hp → VK → Prop := fun x lo hi H Q => ∃ (a : Addr) (L : List Nat) (k : Nat), x = .ref a ∧ H a = some (.tup (tn L)) ∧ lo = some (k : Int) ∧ hi = none ∧ ∀ H' p, Same H H' → H' p = some (.tup (tn (L.drop k))) → Q (.ref p) H'
theorem rSlN_to {K : PySem.W.Frag} {x : V} {lo hi : Option Int} {H : Hp} {Q : VK} (h : rSlN x lo hi H Q) : rSlA K x lo hi H Q := by
  obtain ⟨a, L, k, rfl, ha, rfl, rfl, q⟩ := h
  have h := sl_drop (Q := Q) k ha q
  exact ⟨a, tn L, rfl, SqT.of ha, h.1, h.2⟩
theorem slNK {X : Cx} : SlR X rSlN := fun pins s σ H x v vl vu lo hi sl Q I rx hs pl pu q => sl_tupA pins s σ H x v vl vu lo hi sl Q I rx hs pl pu (rSlN_to q)
theorem succ_cast (x : Nat) : (x : Int) + 1 = ((x + 1 : Nat) : Int) := by omega
theorem filt_ints (S : List Nat) (f : Nat → Int) : (S.filter fun _ => true).map (fun z => V.int (f z)) = (S.map f).map V.int := by
  rw [List.filter_eq_self.mpr (fun _ _ => rfl), List.map_map]
  rfl
def spWarmthOf : Sp := fun vs H Q _ => ∃ (v : V) (y : Yard) (a : Addr) (L : List Nat), vs = [v, .ref a] ∧ Yd H v y ∧ H a = some (.tup (tn L)) ∧ (∀ z ∈ L, z < y.m) ∧ L.length ≤ 6 ∧ ∀ H', Same H H' → Q (.int (warm y L)) H'
def spWarmth : Sp := fun vs H Q _ => ∃ (v : V) (y : Yard) (a : Addr) (L : List Nat), vs = [v, .ref a] ∧ Yd H v y ∧ H a = some (.tup (tn L)) ∧ L.Perm (List.range y.m) ∧ ∀ H', Same H H' → Q (.int (warm y L)) H'
def spCutTime : Sp := fun vs H Q _ => ∃ (v : V) (y : Yard) (a : Addr) (L : List Nat) (r : Nat), vs = [v, .ref a, vn r] ∧ Yd H v y ∧ H a = some (.tup (tn L)) ∧ (∀ z ∈ L, z < y.m) ∧ L.length ≤ 6 ∧ 1 ≤ r ∧ r < y.many ∧ ∀ H', Same H H' → Q (vn (cut y L r)) H'
def spCutTimes : Sp := fun vs H Q _ => ∃ (v : V) (y : Yard) (a : Addr) (L : List Nat), vs = [v, .ref a] ∧ Yd H v y ∧ H a = some (.tup (tn L)) ∧ L.Perm (List.range y.m) ∧ Gives H Q (.tup (tn ((List.range' 1 (y.many - 1)).map (cut y L))))
section
variable {P : Program} {w : World} {K : PySem.W.Frag} {mg : Str → Option Value} {base : Heap} {f : Addr} {fd : FuncData}
theorem ok_warmth_of (c_joined : Cal P w K mg base 2 "joined" ["yard", "lot"] spJoined) (F : Fun K "warmth_of" "warmth_of" s_warmth_of f fd) (T : Txt mg) : FnOk P w K mg base CX0 3 f fd ["yard", "order"] spWarmthOf := by
  refine F.ok sc_warmth_of (fun vs H Q E h => ?_) (fun cdv A outer s H vs Q E hr h => ?_)
  · obtain ⟨v, y, a, L, rfl, _⟩ := h
    rfl
  · obtain ⟨v, y, al, L, rfl, hY, hal, hL, hlen, q⟩ := h
    refine ⟨_, (pss_one (ps_ret (pe_callB (sumK K) (by rfl) T.sum b_sum (pa_cons (pe_lc (own := [("place", 2)]) (g := gName 2) (by rfl) sc_warmth_of.nd (pi_range1 (by rfl) T.range (pa_cons (pe_callB (lenK K) (by rfl) T.len b_len (pa_cons (pv 1) pa_nil)) pa_nil)) (blkOk_by (by kernel_rfl)) (fun _ _ _ _ _ => pg_name (i := 2) sc_warmth_of.nd rfl (Or.inl rfl)) (fun _ _ _ _ _ => pts_nil) (fun _ _ _ _ _ => (pe_op op_sub (pe_callB (lenK K) (by rfl) T.len b_len (pa_cons (pf c_joined hr (by decide) (by rfl) (pa_cons (pv 0) (pa_cons (pe_slice slNK (pv 1) (po_some (pe_op op_add (pv 2) pe_int)) po_none) pa_nil))) pa_nil)) pe_int))) pa_nil)))), ?_⟩
    have hl : (tn L).length = L.length := List.length_map _
    refine ⟨_, rfl, al, tn L, rfl, .inr (SqT.of hal), _, rfl, by omega, by omega, fun D nD => ?_⟩
    rw [Int.toNat_natCast, hl]
    refine lc_filtR (lo := 0) (n := L.length) (fun _ => true) (fun p => V.int ((J y (L.drop (p + 1)) : Int) - 1)) nD (by omega) ?_ ?_
    · intro x H1 N hx s1 hT _
      refine ⟨rfl, ⟨_, rfl, _, rfl, _, rfl, _, _, rfl, rfl, _, rfl, al, L, x + 1, rfl, s1 _ _ hal, congrArg some (succ_cast x), rfl, fun H2 p s2 tp => ?_⟩⟩
      have s12 := s1.trans s2
      refine ⟨v, y, p, L.drop (x + 1), rfl, hY.mono s12, tp, fun z hz => hL z (List.mem_of_mem_drop hz), fun H3 r s3 nr er => ?_⟩
      refine ⟨r, _, rfl, .inl (SqL.of er), _, _, rfl, rfl, ?_⟩
      rw [List.length_map]
      exact hT rfl H3 (s2.trans s3)
    · intro H1 s1 e1
      rw [filt_ints] at e1
      refine ⟨D, _, rfl, SqL.of e1, ?_⟩
      rw [← List.range_eq_range', warm_sum]
      exact q _ s1
theorem ok_warmth (c_need_yard : Cal P w K mg base 4 "need_yard" ["value"] spNeedYard) (c_need_order : Cal P w K mg base 2 "need_order" ["yard", "value"] spNeedOrder) (c_warmth_of : Cal P w K mg base 3 "warmth_of" ["yard", "order"] spWarmthOf)
    (F : Fun K "warmth" "warmth" s_warmth f fd) (T : Txt mg) : FnOk P w K mg base CX0 5 f fd ["yard", "order"] spWarmth := by
  refine F.ok sc_warmth (fun vs H Q E h => ?_) (fun cdv A outer s H vs Q E hr h => ?_)
  · obtain ⟨v, y, a, L, rfl, _⟩ := h
    rfl
  · obtain ⟨v, y, al, L, rfl, hY, hal, hpm, q⟩ := h
    have ok3 : y.m ≤ 6 := hY.ok.nw
    refine ⟨_, (pss_cons (ps_expr (pf c_need_yard hr (by decide) (by rfl) (pa_cons (pv 0) pa_nil)))
      (pss_cons (ps_expr (pf c_need_order hr (by decide) (by rfl) (pa_cons (pv 0) (pa_cons (pv 1) pa_nil))))
      (pss_one (ps_ret (pf c_warmth_of hr (by decide) (by rfl) (pa_cons (pv 0) (pa_cons (pv 1) pa_nil))))))), ?_⟩
    refine ⟨_, rfl, v, y, rfl, hY, fun H1 s1 => ?_⟩
    refine ⟨_, rfl, _, rfl, v, y, al, L, rfl, hY.mono s1, s1 _ _ hal, hpm, fun H2 s2 => ?_⟩
    exact ⟨_, rfl, _, rfl, v, y, al, L, rfl, hY.mono (s1.trans s2), (s1.trans s2) _ _ hal, fun z hz => List.mem_range.mp (hpm.mem_iff.mp hz), by rw [hpm.length_eq, List.length_range]; exact ok3, fun H3 s3 => q _ ((s1.trans s2).trans s3)⟩
theorem ok_cut_time (c_joined : Cal P w K mg base 2 "joined" ["yard", "lot"] spJoined) (F : Fun K "cut_time" "cut_time" s_cut_time f fd) (T : Txt mg) : FnOk P w K mg base CX0 3 f fd ["yard", "order", "room"] spCutTime := by
  refine F.ok sc_cut_time (fun vs H Q E h => ?_) (fun cdv A outer s H vs Q E hr h => ?_)
  · obtain ⟨v, y, a, L, r, rfl, _⟩ := h
    rfl
  · obtain ⟨v, y, al, L, r, rfl, hY, hal, hL, hlen, hr1, hr2, q⟩ := h
    have hl : (tn L).length = L.length := List.length_map _
    refine ⟨_, (pss_cons (ps_for PassesOwn.never rfl (pi_range1 (by rfl) T.range (pa_cons (pe_op op_add (pe_callB (lenK K) (by rfl) T.len b_len (pa_cons (pv 1) pa_nil)) pe_int) pa_nil)) (pg_name (i := 3) sc_cut_time.nd rfl (Or.inl rfl))
      (pss_one (ps_if (pt_cmpR (notInK K) (pv 2) (pf c_joined hr (by decide) (by rfl) (pa_cons (pv 0) (pa_cons (pe_slice slNK (pv 1) (po_some (pv 3)) po_none) pa_nil))) (by rfl))
        (pss_one (ps_ret (pv 3)))
        pss_nil)))
      (pss_one (ps_ret pe_non))), ?_⟩
    refine ⟨_, rfl, al, tn L, rfl, .inr (SqT.of hal), _, _, rfl, rfl, _, rfl, by omega, by omega, ?_⟩
    rw [hl, succ_cast, Int.toNat_natCast]
    refine for_range (lo := 0) (n := L.length + 1) (fun i σ H' => ∃ s3, σ = [some v, some (.ref al), some (vn r), s3] ∧ Same H H' ∧ ∀ j, j < i → Cl (Eu y) (L.drop j) r) ⟨_, rfl, Same.refl _, fun j h => absurd h (Nat.not_lt_zero _)⟩ ?_ ?_
    · rintro i σ H1 hi ⟨s3, rfl, s1, hc⟩
      rw [Int.zero_add]
      refine ⟨_, rfl, _, rfl, _, rfl, _, rfl, _, rfl, al, L, i, rfl, s1 _ _ hal, rfl, rfl, fun H2 p s2 tp => ?_⟩
      have s12 := s1.trans s2
      refine ⟨v, y, p, L.drop i, rfl, hY.mono s12, tp, fun z hz => hL z (List.mem_of_mem_drop hz), fun H3 g s3 ng eg => ?_⟩
      have s13 := s12.trans s3
      refine ⟨g, _, rfl, .inl (SqL.of eg), rfl, flat_n _, _, rfl, ite_notin (fun hn => ?_) (fun hm => ?_)⟩
      · refine ⟨_, rfl, ?_⟩
        have e := cut_spec (y := y) (w := L) (r := r) (k := i) (by omega) hc (fun z => hn (mem_rooms.mpr ⟨hr2, z⟩))
        have q' := q H3 s13
        rw [e] at q'
        exact q'
      · refine ⟨_, rfl, s13, fun j hj => ?_⟩
        by_cases e : j = i
        · subst e
          exact (mem_rooms.mp hm).2
        · exact hc j (by omega)
    · rintro σ H1 ⟨s3, rfl, s1, hc⟩
      exfalso
      have := hc L.length (Nat.lt_succ_self _)
      rw [List.drop_length] at this
      have := this.nil
      omega
theorem ok_cut_times (c_need_yard : Cal P w K mg base 4 "need_yard" ["value"] spNeedYard) (c_need_order : Cal P w K mg base 2 "need_order" ["yard", "value"] spNeedOrder) (c_cut_time : Cal P w K mg base 3 "cut_time" ["yard", "order", "room"] spCutTime)
    (F : Fun K "cut_times" "cut_times" s_cut_times f fd) (T : Txt mg) : FnOk P w K mg base CX0 5 f fd ["yard", "order"] spCutTimes := by
  refine F.ok sc_cut_times (fun vs H Q E h => ?_) (fun cdv A outer s H vs Q E hr h => ?_)
  · obtain ⟨v, y, a, L, rfl, _⟩ := h
    rfl
  · obtain ⟨v, y, al, L, rfl, hY, hal, hpm, q⟩ := h
    have ok3 : y.m ≤ 6 := hY.ok.nw
    have ok1 := hY.ok.lo
    have ok2 := hY.ok.hi
    refine ⟨_, (pss_cons (ps_expr (pf c_need_yard hr (by decide) (by rfl) (pa_cons (pv 0) pa_nil)))
      (pss_cons (ps_expr (pf c_need_order hr (by decide) (by rfl) (pa_cons (pv 0) (pa_cons (pv 1) pa_nil))))
      (pss_one (ps_ret (pe_callTy call_tuple_of (by rfl) T.tuple b_tuple (pa_cons (pe_lc (own := [("room", 2)]) (g := gName 2) (by rfl) sc_cut_times.nd (pi_range2 (by rfl) T.range (pa_cons pe_int (pa_cons (pe_ix (ixTK K) (pv 0) pe_int (fun _ _ => rfl)) pa_nil))) (blkOk_by (by kernel_rfl)) (fun _ _ _ _ _ => pg_name (i := 2) sc_cut_times.nd rfl (Or.inl rfl)) (fun _ _ _ _ _ => pts_nil) (fun _ _ _ _ _ => (pf c_cut_time hr (by decide) (by rfl) (pa_cons (pv 0) (pa_cons (pv 1) (pa_cons (pv 2) pa_nil)))))) pa_nil)))))), ?_⟩
    refine ⟨_, rfl, v, y, rfl, hY, fun H1 s1 => ?_⟩
    refine ⟨_, rfl, _, rfl, v, y, al, L, rfl, hY.mono s1, s1 _ _ hal, hpm, fun H2 s2 => ?_⟩
    have s12 := s1.trans s2
    have hY2 := hY.mono s12
    obtain ⟨ok, a, b, ps, rfl, ha, hb, hp⟩ := id hY2
    refine ⟨_, rfl, a, _, 0, _, rfl, rfl, SqT.of ha, rfl, _, _, rfl, ⟨by omega, by omega, by omega, by omega⟩, fun D nD => ?_⟩
    rw [show ((y.many : Int) - 1).toNat = y.many - 1 by omega]
    refine lc_filtR (lo := 1) (n := y.many - 1) (fun _ => true) (fun r => vn (cut y L r)) nD (by omega) ?_ ?_
    · intro x H3 N hx s3 hT _
      have hx' := List.mem_range'.mp hx
      obtain ⟨j, hj, rfl⟩ := hx'
      exact ⟨rfl, ⟨_, rfl, _, rfl, _, rfl, _, y, al, L, 1 + 1 * j, rfl, hY2.mono s3, (s12.trans s3) _ _ hal, fun z hz => List.mem_range.mp (hpm.mem_iff.mp hz), by rw [hpm.length_eq, List.length_range]; exact ok3, by omega, by omega, fun H4 s4 => hT rfl H4 s4⟩⟩
    · intro H3 s3 e3
      have e : ((List.range' 1 (y.many - 1)).filter fun _ => true).map (fun r => vn (cut y L r)) = tn ((List.range' 1 (y.many - 1)).map (cut y L)) := by
        rw [List.filter_eq_self.mpr (fun z _ => rfl)]
        show _ = List.map vn _
        rw [List.map_map]
        rfl
      rw [e] at e3
      refine ⟨D, _, rfl, .inl ⟨SqL.of e3, fun l nl => ?_⟩⟩
      exact q _ l ((s12.trans s3).trans (same_upd nl)) (s12.free (s3.free nl)) upd_same
end
end Wk
/-! warmths, least_warmth, greatest_warmth, cool_order. -/
namespace Wk
open PySem L2
/-- the int at a key -/
def valI (kvs : List (List Key × V)) (L : List Nat) : Int := match valV kvs (nk L) with
  | some (.int u) => u
  | _ => 0
theorem valI_of {kvs : List (List Key × V)} {L : List Nat} {u : Int} (h : valV kvs (nk L) = some (.int u)) : valI kvs L = u := by
  unfold valI
  rw [h]
/-- the dict knows the best of a lot -/
def Has (gr : Bool) (y : Yard) (kvs : List (List Key × V)) (L : List Nat) : Prop := valV kvs (nk L) = some (.int (valI kvs L)) ∧ Best gr y L (valI kvs L)
theorem Has.put {gr : Bool} {y : Yard} {kvs : List (List Key × V)} {L M : List Nat} {u : Int} (h : M ≠ L → Has gr y kvs M) (b : Best gr y L u) : Has gr y (putK kvs (nk L) (.int u)) M := by
  by_cases e : M = L
  · subst e
    have hv : valV (putK kvs (nk M) (.int u)) (nk M) = some (.int u) := by
      rw [valV_put, if_pos rfl]
    have hI := valI_of hv
    exact ⟨by rw [hI]; exact hv, by rw [hI]; exact b⟩
  · obtain ⟨h1, h2⟩ := h e
    have hv : valV (putK kvs (nk L) (.int u)) (nk M) = some (.int (valI kvs M)) := by
      rw [valV_put, if_neg (fun z => e (nk_inj z))]
      exact h1
    have hI := valI_of hv
    exact ⟨by rw [hI]; exact hv, by rw [hI]; exact h2⟩
theorem best_some {gr : Bool} {y : Yard} {L : List Nat} {v : Int} {f : Nat → Int} (o : OpenL y L) (hne : L ≠ []) (hf : ∀ x, x ∈ canGo y L → Best gr y (wo L x) (f x)) (hv : Best gr y L v) :
    ∃ x, x ∈ canGo y L ∧ f x + (J y (wo L x) : Int) - 1 = v := by
  obtain ⟨⟨w, vw, e, ew⟩, hm⟩ := hv
  cases w with
  | nil =>
    exfalso
    cases L with
    | nil => exact hne rfl
    | cons z r => exact absurd ((e z).mpr List.mem_cons_self) (by simp)
  | cons x t =>
    obtain ⟨c, et⟩ := vw.can e
    have hx := mem_go.mpr c
    have h1 := (hf x hx).2 t vw.2.2.2 et
    obtain ⟨⟨t2, vt2, et2, qt2⟩, _⟩ := hf x hx
    obtain ⟨g1, g2⟩ := c.vd o.1.2 vt2 et2
    have h2 := hm _ g1 g2
    have ew' : (J y t : Int) - 1 + warm y t = v := ew
    have e3 : warm y (x :: t2) = (J y t2 : Int) - 1 + warm y t2 := rfl
    rw [J_eq et] at ew'
    rw [e3, J_eq et2] at h2
    refine ⟨x, hx, ?_⟩
    cases gr with
    | true =>
      rw [if_pos rfl] at h1 h2
      omega
    | false =>
      rw [if_neg Bool.false_ne_true] at h1 h2
      omega
theorem srt_take : ∀ {l : List Nat} {i x z : Nat}, l.Pairwise (· < ·) → l[i]? = some x → z ∈ l → z < x → z ∈ l.take i
  | [], _, _, _, _, gone, _, _ => by simp at gone
  | a :: r, 0, x, z, hp, h, hz, hlt => by
    have e := Option.some.inj h
    subst e
    rcases List.mem_cons.mp hz with q | q
    · omega
    · have := (List.pairwise_cons.mp hp).1 z q
      omega
  | a :: r, i + 1, x, z, hp, h, hz, hlt => by
    rw [List.take_succ_cons]
    rcases List.mem_cons.mp hz with q | q
    · rw [q]
      exact List.mem_cons_self
    · exact List.mem_cons_of_mem _ (srt_take (List.pairwise_cons.mp hp).2 h q hlt)
open Classical in
theorem go_srt {y : Yard} {L : List Nat} (h : Lot y.m L) : (canGo y L).Pairwise (· < ·) := h.1.filter _
open Classical in
theorem go_len {y : Yard} {L : List Nat} : (canGo y L).length ≤ L.length := List.length_filter_le _ _
theorem eqv_nil_tup (L : List Nat) : PyData.eqv (.tuple (pdn L)) (.tuple []) = decide (L = []) := by
  cases L with
  | nil => rfl
  | cons x r =>
    rw [decide_eq_false (by simp)]
    rfl
def spWarmths : Sp := fun vs H Q _ => ∃ (v : V) (y : Yard) (gr : Bool), vs = [v, .bl gr] ∧ Yd H v y ∧ ∀ (H' : Hp) (d : Addr) (kvs : List (List Key × V)), Same H H' → H d = none → H' d = some (.dT kvs) → (∀ L, OpenL y L → Has gr y kvs L) → Q (.ref d) H'
def spBest (gr : Bool) : Sp := fun vs H Q _ => ∃ (v : V) (y : Yard), vs = [v] ∧ Yd H v y ∧ ∀ H' r, Same H H' → ((∃ u, r = .int u ∧ Growth y (List.range y.m) ∧ Best gr y (List.range y.m) u) ∨ (r = .non ∧ ¬ Growth y (List.range y.m))) → Q r H'
def spCool : Sp := fun vs H Q _ => ∃ (v : V) (y : Yard), vs = [v] ∧ Yd H v y ∧ ∀ H' r, Same H H' → ((∃ w, Tu H' r w ∧ Growth y (List.range y.m) ∧ Cool y (List.range y.m) w) ∨ (r = .non ∧ ¬ Growth y (List.range y.m))) → Q r H'
section
variable {P : Program} {w : World} {K : PySem.W.Frag} {mg : Str → Option Value} {base : Heap} {f : Addr} {fd : FuncData}
theorem ok_warmths (c_layers_of : Cal P w K mg base 4 "layers_of" ["yard"] spLayers) (c_can_go_of : Cal P w K mg base 4 "can_go_of" ["yard", "lot"] spCanGo) (c_without : Cal P w K mg base 1 "without" ["lot", "number"] spWithout)
    (c_joined : Cal P w K mg base 2 "joined" ["yard", "lot"] spJoined) (F : Fun K "warmths" "warmths" s_warmths f fd) (T : Txt mg) : FnOk P w K mg base CX0 5 f fd ["yard", "greatest"] spWarmths := by
  refine F.ok sc_warmths (fun vs H Q E h => ?_) (fun cdv A outer s H vs Q E hr h => ?_)
  · obtain ⟨v, y, gr, rfl, _⟩ := h
    rfl
  · obtain ⟨v, y, gr, rfl, hY, q⟩ := h
    have ok3 : y.m ≤ 6 := hY.ok.nw
    refine ⟨_, (pss_cons (ps_set (i := 2) sc_warmths.nd rfl (Or.inl rfl) (pe_disp1T (hu_of hr) (pe_tup pa_nil) pe_int))
      (pss_cons (ps_for PassesOwn.never rfl (pi_listK K (pe_slice (slLK K) (pf c_layers_of hr (by decide) (by rfl) (pa_cons (pv 0) pa_nil)) (po_some pe_int) po_none)) (pg_name (i := 3) sc_warmths.nd rfl (Or.inl rfl))
      (pss_one (ps_for PassesOwn.never rfl (pi_listK K (pv 3)) (pg_name (i := 4) sc_warmths.nd rfl (Or.inl rfl))
        (pss_cons (ps_set (i := 5) sc_warmths.nd rfl (Or.inl rfl) (pe_lst pa_nil))
          (pss_cons (ps_for PassesOwn.never rfl (pi_tupK K (pf c_can_go_of hr (by decide) (by rfl) (pa_cons (pv 0) (pa_cons (pv 4) pa_nil)))) (pg_name (i := 6) sc_warmths.nd rfl (Or.inl rfl))
          (pss_cons (ps_set (i := 7) sc_warmths.nd rfl (Or.inl rfl) (pf c_without hr (by decide) (by rfl) (pa_cons (pv 4) (pa_cons (pv 6) pa_nil))))
            (pss_one (ps_expr (pe_bm PySem.F.plainAttrs_list PySem.F.slot_list_append PySem.F.type_list_append mt_append (pv 5) (pa_cons (pe_op op_sub (pe_op op_add (pe_dget (hu_of hr) (pv 2) (pv 7) (fun _ _ => rfl)) (pe_callB (lenK K) (by rfl) T.len b_len (pa_cons (pf c_joined hr (by decide) (by rfl) (pa_cons (pv 0) (pa_cons (pv 7) pa_nil))) pa_nil))) pe_int) pa_nil))))))
          (pss_one (ps_dput (hu_of hr) (pv 2) (pv 4) (pe_ifExp (pt_val (pv 1)) (pe_callB (maxK K) (by rfl) T.max b_max (pa_cons (pv 5) pa_nil)) (pe_callB (minK K) (by rfl) T.min b_min (pa_cons (pv 5) pa_nil))) (by rfl))))))))
      (pss_one (ps_ret (pv 2))))), ?_⟩
    intro d nd
    refine ⟨sz (by simp), fun t0 nt0 => ?_⟩
    have s0 : Same H (upd H d (.dT [])) := same_upd nd
    have s00 := same_upd (o := HO.tup []) nt0
    refine ⟨t0, [], rfl, upd_same, s00 _ _ upd_same, ?_⟩
    have sA : Same H (upd (upd (upd H d (.dT [])) t0 (.tup [])) d (.dT [([], .int 0)])) := Same.upd (s0.trans s00) nd
    have eA : (upd (upd (upd H d (.dT [])) t0 (.tup [])) d (.dT [([], .int 0)])) d = some (.dT [([], .int 0)]) := upd_same
    generalize upd (upd (upd H d (.dT [])) t0 (.tup [])) d (.dT [([], .int 0)]) = HA at sA eA
    have has0 : Has gr y [([], V.int 0)] [] := by
      have hv : valV [(([] : List Key), V.int 0)] (nk []) = some (.int 0) := rfl
      have hI := valI_of hv
      exact ⟨by rw [hI]; exact hv, by rw [hI]; exact best_nil⟩
    -- for layer in layers_of(yard)[1:]
    refine ⟨_, rfl, v, y, rfl, hY.mono sA, fun H1 ql qs LL s1 nql eql pql lay => ?_⟩
    refine ⟨1, rfl, ql, qs, rfl, SqL.of eql, fun sl nsl => ?_⟩
    have ecut : cutV qs (some 1) none = qs.drop 1 := cut_drop qs 1
    rw [ecut]
    have s2 : Same H1 (upd H1 sl (.lst (qs.drop 1))) := same_upd nsl
    have esl : (upd H1 sl (.lst (qs.drop 1))) sl = some (.lst (qs.drop 1)) := upd_same
    generalize upd H1 sl (.lst (qs.drop 1)) = H2 at s2 esl
    have pq2 : Paired (LayAt H2) qs LL := paired_mono (fun _ _ t => t.mono s2) pql
    have ed2 : H2 d = some (.dT [([], .int 0)]) := (s1.trans s2) _ _ eA
    have hY2 := hY.mono (sA.trans (s1.trans s2))
    have hY2' : Yd (del H2 d) v y := by
      obtain ⟨ok, a, b, ps, e, ha, hb, hp⟩ := hY2
      refine ⟨ok, a, b, ps, e, ?_, ?_, paired_mono (fun p w t => ?_) hp⟩
      · rw [del_ne (ne_of ha ed2 (by intro z; cases z))]
        exact ha
      · rw [del_ne (ne_of hb ed2 (by intro z; cases z))]
        exact hb
      · rw [del_ne (ne_of t ed2 (by intro z; cases z))]
        exact t
    have pq3 : Paired (LayAt (del H2 d)) qs LL := paired_mono (fun qv Ls ⟨a, xs, e, h1, h2⟩ => ⟨a, xs, e, by rw [del_ne (ne_of h1 ed2 (by intro z; cases z))]; exact h1, paired_mono (fun _ _ t => by
      obtain ⟨c, e, h⟩ := t
      exact ⟨c, e, by rw [del_ne (ne_of h ed2 (by intro z; cases z))]; exact h⟩) h2⟩) pq2
    have esl3 : (del H2 d) sl = some (.lst (qs.drop 1)) := by
      rw [del_ne (ne_of esl ed2 (by intro z; cases z))]
      exact esl
    have few := lay.few
    have lqs : (qs.drop 1).length = LL.length - 1 := by rw [List.length_drop, paired_len pql]
    refine ⟨sl, rfl, ⟨_, SqL.of esl⟩, for_list (xs := qs.drop 1) (fun i σ H' => ∃ s3 s4 s5 s6 s7 kvs, σ = [some v, some (.bl gr), some (.ref d), s3, s4, s5, s6, s7] ∧ Same H H' ∧ Same (del H2 d) H' ∧ H' d = some (.dT kvs) ∧ kvs.length ≤ 1 + i * 279936 ∧ ∀ L, OpenL y L → L.length ≤ i → Has gr y kvs L)
      ⟨_, _, _, _, _, _, rfl, sA.trans (s1.trans s2), del_same, ed2, by simp, fun L o hl => ?_⟩ (fun i σ H' _ ⟨_, _, _, _, _, _, _, _, h, _⟩ => SqL.of (h _ _ esl3)) ?_ ?_⟩
    · have : L = [] := List.length_eq_zero_iff.mp (by omega)
      rw [this]
      exact has0
    · rintro i lv σ H' hi ⟨s3, s4, s5, s6, s7, kvs, rfl, sH, sD, ed, hk, hh⟩
      rw [List.getElem?_drop] at hi
      obtain ⟨Ls, hLs, ⟨qa, xs, rfl, hqa, hxs⟩⟩ := paired_at pq3 hi
      have hmem := lay.mem (1 + i) Ls hLs
      have hlen := lay.len (1 + i) Ls hLs
      have hiL : 1 + i < LL.length := (List.getElem?_eq_some_iff.mp hLs).1
      have h66 : 6 ^ (1 + i) ≤ 6 ^ 7 := Nat.pow_le_pow_right (by decide) (by omega)
      have h67 : (6 : Nat) ^ 7 = 279936 := by decide
      have lx : xs.length = Ls.length := paired_len hxs
      -- for lot in layer
      refine ⟨_, rfl, qa, rfl, ⟨_, SqL.of (sD _ _ hqa)⟩, for_list (xs := xs) (fun j σ H' => ∃ s4 s5 s6 s7 kvs, σ = [some v, some (.bl gr), some (.ref d), some (.ref qa), s4, s5, s6, s7] ∧ Same H H' ∧ Same (del H2 d) H' ∧ H' d = some (.dT kvs) ∧ kvs.length ≤ 1 + i * 279936 + j ∧
        (∀ L, OpenL y L → L.length ≤ i → Has gr y kvs L) ∧ ∀ L ∈ Ls.take j, Has gr y kvs L)
        ⟨_, _, _, _, kvs, rfl, sH, sD, ed, hk, hh, fun L h => (by simp at h)⟩ (fun j σ H' _ ⟨_, _, _, _, _, _, _, h, _⟩ => SqL.of (h _ _ hqa)) ?_ ?_⟩
      · rintro j tv σ H3 hj ⟨s4, s5, s6, s7, kvs, rfl, sH3, sD3, ed3, hk3, hh3, hj3⟩
        obtain ⟨L, hL, ⟨la, rfl, tL⟩⟩ := paired_at hxs hj
        obtain ⟨oL, eL⟩ := (hmem L).mp (List.mem_of_getElem? hL)
        have hne : L ≠ [] := fun z => by rw [z] at eL; simp at eL; omega
        have hjl : j < Ls.length := (List.getElem?_eq_some_iff.mp hL).1
        refine ⟨sz (by simp), fun sm nsm => ?_⟩
        have r1 : Same H3 (upd H3 sm (.lst [])) := same_upd nsm
        have dsm : d ≠ sm := ne_of_none ed3 nsm
        -- for one in can_go_of(yard, lot)
        refine ⟨_, rfl, _, rfl, v, y, la, L, rfl, hY2'.mono (sD3.trans r1), (sD3.trans r1) _ _ tL, oL.1, fun H4 g r2 ng eg => ?_⟩
        have em4 := r2 _ _ (upd_same (H := H3) (a := sm) (o := .lst []))
        have glen : (canGo y L).length ≤ 6 := Nat.le_trans go_len (Nat.le_trans oL.1.len ok3)
        have hrest : ∀ x, x ∈ canGo y L → Has gr y kvs (wo L x) := fun x hx => by
          have c := mem_go.mp hx
          refine hh3 _ (c.rest oL) ?_
          have := wo_len oL.1.nodup c.1
          omega
        refine ⟨g, rfl, ⟨_, SqT.of eg⟩, for_tup (xs := tn (canGo y L)) (fun m σ H' => ∃ s6 s7, σ = [some v, some (.bl gr), some (.ref d), some (.ref qa), some (.ref la), some (.ref sm), s6, s7] ∧ Same H3 H' ∧ H' g = some (.tup (tn (canGo y L))) ∧
          H' sm = some (.lst ((((canGo y L).take m).map fun x => valI kvs (wo L x) + (J y (wo L x) : Int) - 1).map V.int)))
          ⟨_, _, rfl, r1.trans r2, eg, em4⟩ (fun m σ H' _ ⟨_, _, _, _, h, _⟩ => SqT.of h) ?_ ?_⟩
        · rintro m xv σ H5 hm ⟨s6, s7, rfl, r3, eg5, em5⟩
          obtain ⟨x, hx, rfl⟩ := tn_get hm
          have hxg : x ∈ canGo y L := List.mem_of_getElem? hx
          have c := mem_go.mp hxg
          have hr' := c.rest oL
          have sD5 := sD3.trans r3
          refine ⟨_, rfl, _, rfl, la, L, x, rfl, sD5 _ _ tL, by have := oL.1.len; omega, fun H6 u r4 nu eu => ?_⟩
          have ed6 := (r3.trans r4) _ _ ed3
          have hval := hrest x hxg
          have em6 := r4 _ _ em5
          refine ⟨_, rfl, .inl ⟨rfl, _, SqL.of em6⟩, ?_⟩
          have hget : DGet H6 d (.ref u) (some (V.int (valI kvs (wo L x)))) := by
            have h := DGet.t (k := nk (wo L x)) ed6 (show H6 u = some (.tup ((nk (wo L x)).map kV)) by rw [nk_kV]; exact eu)
            rw [hval.1] at h
            exact h
          refine ⟨_, rfl, _, rfl, d, _, rfl, hget, ?_⟩
          refine ⟨_, rfl, _, rfl, v, y, u, wo L x, rfl, hY2'.mono (sD5.trans r4), eu, hr'.1.2, fun H7 r r5 nr er => ?_⟩
          refine ⟨r, _, rfl, .inl (SqL.of er), _, _, rfl, rfl, _, _, rfl, rfl, ?_⟩
          rw [List.length_map]
          have em7 := r5 _ _ em6
          refine ⟨sm, _, _, rfl, rfl, em7, ?_, ?_⟩
          · rw [List.length_map, List.length_map, List.length_take]
            have := Nat.min_le_right m (canGo y L).length
            exact small1000 (by omega)
          · have gsm : g ≠ sm := ne_of eg5 em5 (by intro z; cases z)
            refine ⟨_, _, rfl, ?_, ?_, ?_⟩
            · exact Same.upd ((r3.trans r4).trans r5) nsm
            · rw [upd_ne gsm]
              exact (r4.trans r5) _ _ eg5
            · rw [upd_same, take_snoc hx, List.map_append, List.map_append]
              rfl
        · rintro σ H5 ⟨s6, s7, rfl, r3, eg5, em5⟩
          rw [List.length_map, List.take_length] at em5
          have ed5 := r3 _ _ ed3
          have hb : ∀ u, u ∈ (canGo y L).map (fun x => valI kvs (wo L x) + (J y (wo L x) : Int) - 1) → (∀ z ∈ (canGo y L).map (fun x => valI kvs (wo L x) + (J y (wo L x) : Int) - 1), if gr = true then z ≤ u else u ≤ z) → Best gr y L u := fun u hu hz =>
            best_step oL hne (fun x hx => (hrest x hx).2) hu hz
          have hpos : 0 < ((canGo y L).map (fun x => valI kvs (wo L x) + (J y (wo L x) : Int) - 1)).length := by
            rw [List.length_map]
            obtain ⟨x, c⟩ := open_can oL hne
            exact List.length_pos_of_mem (mem_go.mpr c)
          have hkey : H5 la = some (.tup ((nk L).map kV)) := by
            rw [nk_kV]
            exact (sD3.trans r3) _ _ tL
          have hklt : kvs.length < sizeLine := by
            have hs : sizeLine = 16777216 := rfl
            have : i * 279936 ≤ 7 * 279936 := Nat.mul_le_mul_right _ (by omega)
            omega
          have fin : ∀ σ6 σ7 u, Best gr y L u → ∃ a H4, V.ref d = V.ref a ∧ DPut H5 a (V.ref la) (V.int u) H4 ∧ ∃ s4 s5 s6 s7 kvs, [some v, some (V.bl gr), some (V.ref d), some (V.ref qa), some (V.ref la), some (V.ref sm), σ6, σ7] = [some v, some (.bl gr), some (.ref d), some (.ref qa), s4, s5, s6, s7] ∧ Same H H4 ∧ Same (del H2 d) H4 ∧ H4 d = some (.dT kvs) ∧ kvs.length ≤ 1 + i * 279936 + (j + 1) ∧
              (∀ L, OpenL y L → L.length ≤ i → Has gr y kvs L) ∧ ∀ L ∈ Ls.take (j + 1), Has gr y kvs L := fun σ6 σ7 u bu => by
            refine ⟨d, _, rfl, DPut.t ed5 hkey hklt, _, _, _, _, putK kvs (nk L) (.int u), rfl, Same.upd (sH3.trans r3) nd, Same.upd (sD3.trans r3) del_at, upd_same, ?_, fun M oM hM => Has.put (fun _ => hh3 M oM hM) bu, fun M hM => Has.put (fun hne => ?_) bu⟩
            · have := length_putK kvs (nk L) (V.int u)
              omega
            · rw [take_snoc hL] at hM
              rcases List.mem_append.mp hM with hM | hM
              · exact hj3 M hM
              · exact (hne (List.mem_singleton.mp hM)).elim
          refine ⟨_, rfl, gr, rfl, ?_⟩
          cases gr with
          | true =>
            refine iteT ⟨_, rfl, sm, _, rfl, SqL.of em5, hpos, fun u hu hz => ?_⟩
            have bu := hb u hu (fun z hz' => by rw [if_pos rfl]; exact hz z hz')
            exact ⟨_, rfl, _, rfl, fin _ _ u bu⟩
          | false =>
            refine iteF ⟨_, rfl, sm, _, rfl, SqL.of em5, hpos, fun u hu hz => ?_⟩
            have bu := hb u hu (fun z hz' => by rw [if_neg Bool.false_ne_true]; exact hz z hz')
            exact ⟨_, rfl, _, rfl, fin _ _ u bu⟩
      · rintro σ H3 ⟨s4, s5, s6, s7, kvs, rfl, sH3, sD3, ed3, hk3, hh3, hj3⟩
        rw [lx] at hk3 hj3
        rw [List.take_length] at hj3
        refine ⟨_, _, _, _, _, kvs, rfl, sH3, sD3, ed3, ?_, fun L oL hl => ?_⟩
        · have : (i + 1) * 279936 = i * 279936 + 279936 := Nat.succ_mul _ _
          omega
        · by_cases e : L.length ≤ i
          · exact hh3 L oL e
          · exact hj3 L ((hmem L).mpr ⟨oL, by omega⟩)
    · rintro σ H' ⟨s3, s4, s5, s6, s7, kvs, rfl, sH, sD, ed, hk, hh⟩
      refine ⟨_, rfl, q H' d kvs sH nd ed fun L oL => hh L oL ?_⟩
      obtain ⟨Ls, hLs⟩ := lay.has L oL
      have := (List.getElem?_eq_some_iff.mp hLs).1
      rw [lqs]
      omega
end
end Wk
/-! least_warmth, greatest_warmth, cool_order. -/
namespace Wk
open PySem L2
section
variable {P : Program} {w : World} {K : PySem.W.Frag} {mg : Str → Option Value} {base : Heap} {f : Addr} {fd : FuncData}
theorem ok_least_warmth (c_need_yard : Cal P w K mg base 4 "need_yard" ["value"] spNeedYard) (c_is_growth : Cal P w K mg base 3 "is_growth" ["yard", "lot"] spGrowth) (c_every : Cal P w K mg base 1 "every" ["yard"] spEvery)
    (c_warmths : Cal P w K mg base 5 "warmths" ["yard", "greatest"] spWarmths) (F : Fun K "least_warmth" "least_warmth" s_least_warmth f fd) (T : Txt mg) : FnOk P w K mg base CX0 6 f fd ["yard"] (spBest false) := by
  refine F.ok sc_least_warmth (fun vs H Q E h => ?_) (fun cdv A outer s H vs Q E hr h => ?_)
  · obtain ⟨v, y, rfl, _⟩ := h
    rfl
  · obtain ⟨v, y, rfl, hY, q⟩ := h
    have ok3 : y.m ≤ 6 := hY.ok.nw
    refine ⟨_, (pss_cons (ps_expr (pf c_need_yard hr (by decide) (by rfl) (pa_cons (pv 0) pa_nil)))
      (pss_one (ps_ret (pe_ifExp (pt_val (pf c_is_growth hr (by decide) (by rfl) (pa_cons (pv 0) (pa_cons (pf c_every hr (by decide) (by rfl) (pa_cons (pv 0) pa_nil)) pa_nil)))) (pe_dget (hu_of hr) (pf c_warmths hr (by decide) (by rfl) (pa_cons (pv 0) (pa_cons pe_bl pa_nil))) (pf c_every hr (by decide) (by rfl) (pa_cons (pv 0) pa_nil)) (fun _ _ => rfl)) pe_non)))), ?_⟩
    refine ⟨_, rfl, v, y, rfl, hY, fun H1 s1 => ?_⟩
    have hY1 := hY.mono s1
    refine ⟨_, rfl, _, rfl, v, y, rfl, hY1, fun H2 e s2 ne ee => ?_⟩
    have hY2 := hY1.mono s2
    refine ⟨v, y, e, List.range y.m, rfl, hY2, ee, by rw [List.length_range]; omega, fun z hz => List.mem_range.mp hz, fun H3 b s3 hb => ⟨b, rfl, ite2 (fun eb => ?_) (fun eb => ?_)⟩⟩
    · refine ⟨_, rfl, v, y, false, rfl, hY2.mono s3, fun H4 d kvs s4 nd ed hh => ?_⟩
      refine ⟨_, rfl, v, y, rfl, (hY2.mono s3).mono s4, fun H5 u s5 nu eu => ?_⟩
      have hg := hb.mp eb
      obtain ⟨h1, h2⟩ := hh (List.range y.m) ⟨Lot.range y.m, hg⟩
      have hget : DGet H5 d (.ref u) (some (V.int (valI kvs (List.range y.m)))) := by
        have h := DGet.t (k := nk (List.range y.m)) (s5 _ _ ed) (show H5 u = some (.tup ((nk (List.range y.m)).map kV)) by rw [nk_kV]; exact eu)
        rw [h1] at h
        exact h
      exact ⟨d, _, rfl, hget, q _ _ ((((s1.trans s2).trans s3).trans s4).trans s5) (.inl ⟨_, rfl, hg, h2⟩)⟩
    · exact q _ _ ((s1.trans s2).trans s3) (.inr ⟨rfl, fun z => eb (hb.mpr z)⟩)
theorem ok_greatest_warmth (c_need_yard : Cal P w K mg base 4 "need_yard" ["value"] spNeedYard) (c_is_growth : Cal P w K mg base 3 "is_growth" ["yard", "lot"] spGrowth) (c_every : Cal P w K mg base 1 "every" ["yard"] spEvery)
    (c_warmths : Cal P w K mg base 5 "warmths" ["yard", "greatest"] spWarmths) (F : Fun K "greatest_warmth" "greatest_warmth" s_greatest_warmth f fd) (T : Txt mg) : FnOk P w K mg base CX0 6 f fd ["yard"] (spBest true) := by
  refine F.ok sc_greatest_warmth (fun vs H Q E h => ?_) (fun cdv A outer s H vs Q E hr h => ?_)
  · obtain ⟨v, y, rfl, _⟩ := h
    rfl
  · obtain ⟨v, y, rfl, hY, q⟩ := h
    have ok3 : y.m ≤ 6 := hY.ok.nw
    refine ⟨_, (pss_cons (ps_expr (pf c_need_yard hr (by decide) (by rfl) (pa_cons (pv 0) pa_nil)))
      (pss_one (ps_ret (pe_ifExp (pt_val (pf c_is_growth hr (by decide) (by rfl) (pa_cons (pv 0) (pa_cons (pf c_every hr (by decide) (by rfl) (pa_cons (pv 0) pa_nil)) pa_nil)))) (pe_dget (hu_of hr) (pf c_warmths hr (by decide) (by rfl) (pa_cons (pv 0) (pa_cons pe_bl pa_nil))) (pf c_every hr (by decide) (by rfl) (pa_cons (pv 0) pa_nil)) (fun _ _ => rfl)) pe_non)))), ?_⟩
    refine ⟨_, rfl, v, y, rfl, hY, fun H1 s1 => ?_⟩
    have hY1 := hY.mono s1
    refine ⟨_, rfl, _, rfl, v, y, rfl, hY1, fun H2 e s2 ne ee => ?_⟩
    have hY2 := hY1.mono s2
    refine ⟨v, y, e, List.range y.m, rfl, hY2, ee, by rw [List.length_range]; omega, fun z hz => List.mem_range.mp hz, fun H3 b s3 hb => ⟨b, rfl, ite2 (fun eb => ?_) (fun eb => ?_)⟩⟩
    · refine ⟨_, rfl, v, y, true, rfl, hY2.mono s3, fun H4 d kvs s4 nd ed hh => ?_⟩
      refine ⟨_, rfl, v, y, rfl, (hY2.mono s3).mono s4, fun H5 u s5 nu eu => ?_⟩
      have hg := hb.mp eb
      obtain ⟨h1, h2⟩ := hh (List.range y.m) ⟨Lot.range y.m, hg⟩
      have hget : DGet H5 d (.ref u) (some (V.int (valI kvs (List.range y.m)))) := by
        have h := DGet.t (k := nk (List.range y.m)) (s5 _ _ ed) (show H5 u = some (.tup ((nk (List.range y.m)).map kV)) by rw [nk_kV]; exact eu)
        rw [h1] at h
        exact h
      exact ⟨d, _, rfl, hget, q _ _ ((((s1.trans s2).trans s3).trans s4).trans s5) (.inl ⟨_, rfl, hg, h2⟩)⟩
    · exact q _ _ ((s1.trans s2).trans s3) (.inr ⟨rfl, fun z => eb (hb.mpr z)⟩)
theorem ok_cool_order (c_need_yard : Cal P w K mg base 4 "need_yard" ["value"] spNeedYard) (c_is_growth : Cal P w K mg base 3 "is_growth" ["yard", "lot"] spGrowth) (c_every : Cal P w K mg base 1 "every" ["yard"] spEvery)
    (c_warmths : Cal P w K mg base 5 "warmths" ["yard", "greatest"] spWarmths) (c_can_go_of : Cal P w K mg base 4 "can_go_of" ["yard", "lot"] spCanGo) (c_without : Cal P w K mg base 1 "without" ["lot", "number"] spWithout)
    (c_joined : Cal P w K mg base 2 "joined" ["yard", "lot"] spJoined) (F : Fun K "cool_order" "cool_order" s_cool_order f fd) (T : Txt mg) : FnOk P w K mg base CX0 6 f fd ["yard"] spCool := by
  refine F.ok sc_cool_order (fun vs H Q E h => ?_) (fun cdv A outer s H vs Q E hr h => ?_)
  · obtain ⟨v, y, rfl, _⟩ := h
    rfl
  · obtain ⟨v, y, rfl, hY, q⟩ := h
    have ok3 : y.m ≤ 6 := hY.ok.nw
    refine ⟨_, (pss_cons (ps_expr (pf c_need_yard hr (by decide) (by rfl) (pa_cons (pv 0) pa_nil)))
      (pss_cons (ps_if (pt_not (pt_val (pf c_is_growth hr (by decide) (by rfl) (pa_cons (pv 0) (pa_cons (pf c_every hr (by decide) (by rfl) (pa_cons (pv 0) pa_nil)) pa_nil)))))
      (pss_one (ps_ret pe_non))
      pss_nil)
      (pss_cons (ps_par3 (i := 1) (j := 2) (l := 3) (by rfl) sc_cool_order.nd rfl rfl rfl (by decide) (by decide) (by decide) rfl rfl rfl (pa_cons (pf c_warmths hr (by decide) (by rfl) (pa_cons (pv 0) (pa_cons pe_bl pa_nil))) (pa_cons (pf c_every hr (by decide) (by rfl) (pa_cons (pv 0) pa_nil)) (pa_cons (pe_lst pa_nil) pa_nil))) (by rfl))
      (pss_cons (ps_while PassesOwn.never (pt_cmpR (op_neD hr.units) (pv 2) (pe_tup pa_nil) (nomark _))
      (pss_one (ps_for PassesOwn.never rfl (pi_tupK K (pf c_can_go_of hr (by decide) (by rfl) (pa_cons (pv 0) (pa_cons (pv 2) pa_nil)))) (pg_name (i := 4) sc_cool_order.nd rfl (Or.inl rfl))
        (pss_cons (ps_set (i := 5) sc_cool_order.nd rfl (Or.inl rfl) (pf c_without hr (by decide) (by rfl) (pa_cons (pv 2) (pa_cons (pv 4) pa_nil))))
          (pss_one (ps_if (pt_cmpR op_eq (pe_op op_sub (pe_op op_add (pe_dget (hu_of hr) (pv 1) (pv 5) (fun _ _ => rfl)) (pe_callB (lenK K) (by rfl) T.len b_len (pa_cons (pf c_joined hr (by decide) (by rfl) (pa_cons (pv 0) (pa_cons (pv 5) pa_nil))) pa_nil))) pe_int) (pe_dget (hu_of hr) (pv 1) (pv 2) (fun _ _ => rfl)) (nomark _))
          (pss_cons (ps_expr (pe_bm PySem.F.plainAttrs_list PySem.F.slot_list_append PySem.F.type_list_append mt_append (pv 3) (pa_cons (pv 4) pa_nil)))
            (pss_cons (ps_set (i := 2) sc_cool_order.nd rfl (Or.inl rfl) (pv 5))
            (pss_one (ps_break))))
          pss_nil))))))
      (pss_one (ps_ret (pe_callTy call_tuple_of (by rfl) T.tuple b_tuple (pa_cons (pv 3) pa_nil)))))))), ?_⟩
    refine ⟨_, rfl, v, y, rfl, hY, fun H1 s1 => ?_⟩
    have hY1 := hY.mono s1
    refine ⟨_, rfl, _, rfl, v, y, rfl, hY1, fun H2 e s2 ne ee => ?_⟩
    have hY2 := hY1.mono s2
    refine ⟨v, y, e, List.range y.m, rfl, hY2, ee, by rw [List.length_range]; omega, fun z hz => List.mem_range.mp hz, fun H3 b s3 hb => ⟨b, rfl, ?_⟩⟩
    have s13 := (s1.trans s2).trans s3
    cases b with
    | false => exact iteT (q _ _ s13 (.inr ⟨rfl, fun z => by have := hb.mpr z; cases this⟩))
    | true =>
      have hg := hb.mp rfl
      refine iteF ?_
      have hY3 := hY2.mono s3
      refine ⟨_, rfl, _, y, false, rfl, hY3, fun H4 d kvs s4 nd ed hh => ?_⟩
      refine ⟨_, rfl, v, y, rfl, hY3.mono s4, fun H5 u s5 nu eu => ?_⟩
      refine ⟨sz (by simp), fun l nl => ⟨_, _, _, rfl, ?_⟩⟩
      have s15 := (s13.trans s4).trans s5
      have nl0 : H l = none := s15.free nl
      have s6 : Same H5 (upd H5 l (.lst [])) := same_upd nl
      refine ⟨fun m σ H' => ∃ la L pre s4 s5, σ = [some v, some (.ref d), some (.ref la), some (.ref l), s4, s5] ∧ Same H5 H' ∧ H' la = some (.tup (tn L)) ∧ H' l = some (.lst (tn pre)) ∧ OpenL y L ∧ pre.length + L.length = y.m ∧
        (∀ t, Cool y L t → Cool y (List.range y.m) (pre ++ t)) ∧ m = L.length,
        ⟨_, u, List.range y.m, [], none, none, rfl, s6, s6 _ _ eu, upd_same, ⟨Lot.range y.m, hg⟩, by rw [List.length_range]; simp, fun t h => h, rfl⟩, ?_⟩
      rintro m σ H6 ⟨la, L, pre, t4, t5, rfl, r1, ela, el, oL, hpl, hcool, em⟩
      refine ⟨_, rfl, sz (by simp), fun z nz => ?_⟩
      have r2 : Same H6 (upd H6 z (.tup [])) := same_upd nz
      have ez : (upd H6 z (.tup [])) z = some (.tup []) := upd_same
      generalize upd H6 z (.tup []) = H7 at r2 ez
      refine ⟨_, .tuple [], dp_tup (r2 _ _ ela), .tup (SqT.of ez) .nil, shaped_tup _, rfl, _, rfl, ?_⟩
      rw [eqv_nil_tup]
      have el7 := r2 _ _ el
      by_cases hnil : L = []
      · rw [decide_eq_true hnil]
        subst hnil
        refine iteF ⟨_, rfl, l, _, rfl, .inl ⟨SqL.of el7, fun t nt => ?_⟩⟩
        have hc := hcool [] cool_nil
        rw [List.append_nil] at hc
        exact q _ _ ((s15.trans (r1.trans r2)).trans (same_upd nt)) (.inl ⟨pre, ⟨t, rfl, upd_same⟩, hg, hc⟩)
      · rw [decide_eq_false hnil]
        refine iteT ⟨fun σ' H'' => ∃ m', m' < m ∧ ∃ la L pre s4 s5, σ' = [some v, some (.ref d), some (.ref la), some (.ref l), s4, s5] ∧ Same H5 H'' ∧ H'' la = some (.tup (tn L)) ∧ H'' l = some (.lst (tn pre)) ∧ OpenL y L ∧ pre.length + L.length = y.m ∧
          (∀ t, Cool y L t → Cool y (List.range y.m) (pre ++ t)) ∧ m' = L.length, fun _ _ h => h, ?_⟩
        have hYc : ∀ H', Same H5 H' → Yd H' v y := fun H' sh => hY3.mono ((s4.trans s5).trans sh)
        obtain ⟨hvL, bL⟩ := hh L oL
        have hrest : ∀ x, x ∈ canGo y L → valV kvs (nk (wo L x)) = some (.int (valI kvs (wo L x))) ∧ Best false y (wo L x) (valI kvs (wo L x)) := fun x hx => hh _ ((mem_go.mp hx).rest oL)
        refine ⟨_, rfl, _, rfl, v, y, la, L, rfl, hYc _ (r1.trans r2), r2 _ _ ela, oL.1, fun H8 g r3 ng eg => ?_⟩
        refine ⟨g, rfl, ⟨_, SqT.of eg⟩, for_tup (xs := tn (canGo y L)) (fun i σ H' => ∃ s4 s5, σ = [some v, some (.ref d), some (.ref la), some (.ref l), s4, s5] ∧ Same H8 H' ∧ ∀ x ∈ (canGo y L).take i, valI kvs (wo L x) + (J y (wo L x) : Int) - 1 ≠ valI kvs L)
          ⟨_, _, rfl, Same.refl _, fun x h => (by simp at h)⟩ (fun i σ H' _ ⟨_, _, _, h, _⟩ => SqT.of (h _ _ eg)) ?_ ?_⟩
        · rintro i xv σ H9 hi ⟨u4, u5, rfl, r4, hno⟩
          obtain ⟨x, hx, rfl⟩ := tn_get hi
          have hxg : x ∈ canGo y L := List.mem_of_getElem? hx
          have c := mem_go.mp hxg
          have ro := c.rest oL
          have r9 := (r1.trans r2).trans (r3.trans r4)
          have ela9 := (r2.trans (r3.trans r4)) _ _ ela
          have ed9 := (s5.trans r9) _ _ ed
          refine ⟨_, rfl, _, rfl, la, L, x, rfl, ela9, by have := oL.1.len; omega, fun H10 rr r5 nr er => ?_⟩
          have hval := hrest x hxg
          have ed10 := r5 _ _ ed9
          have hget : DGet H10 d (.ref rr) (some (V.int (valI kvs (wo L x)))) := by
            have h := DGet.t (k := nk (wo L x)) ed10 (show H10 rr = some (.tup ((nk (wo L x)).map kV)) by rw [nk_kV]; exact er)
            rw [hval.1] at h
            exact h
          refine ⟨_, rfl, _, rfl, d, _, rfl, hget, ?_⟩
          refine ⟨_, rfl, _, rfl, v, y, rr, wo L x, rfl, hYc _ (r9.trans r5), er, ro.1.2, fun H11 jr r6 nj ej => ?_⟩
          refine ⟨jr, _, rfl, .inl (SqL.of ej), _, _, rfl, rfl, _, _, rfl, rfl, ?_⟩
          have hget2 : DGet H11 d (.ref la) (some (V.int (valI kvs L))) := by
            have h := DGet.t (k := nk L) (r6 _ _ ed10) (show H11 la = some (.tup ((nk L).map kV)) by rw [nk_kV]; exact (r5.trans r6) _ _ ela9)
            rw [hvL] at h
            exact h
          refine ⟨_, rfl, _, rfl, d, _, rfl, hget2, rfl, _, rfl, ?_⟩
          rw [List.length_map]
          have r811 := (r4.trans r5).trans r6
          by_cases heq : valI kvs (wo L x) + (J y (wo L x) : Int) - 1 = valI kvs L
          · rw [show decide (V.int (valI kvs (wo L x) + ((roomsOf (Eu y) y.many (wo L x)).length : Int) - 1) = V.int (valI kvs L)) = true from decide_eq_true (congrArg V.int heq)]
            have el11 := (r2.trans (r3.trans r811)) _ _ el
            refine iteT ⟨_, rfl, .inl ⟨rfl, _, SqL.of el11⟩, _, rfl, l, _, _, rfl, rfl, el11, small1000 (by rw [List.length_map]; omega), ?_⟩
            have wl := wo_len oL.1.nodup c.1
            have ner : rr ≠ l := ne_of (r6 _ _ er) el11 (by intro z; cases z)
            refine ⟨_, rfl, (wo L x).length, by omega, rr, wo L x, pre ++ [x], _, _, rfl, Same.upd ((r9.trans r5).trans r6) nl, ?_, by rw [upd_same, tn_snoc], ro, by rw [List.length_append]; simp; omega, fun t ct => ?_, rfl⟩
            · rw [upd_ne ner]
              exact r6 _ _ er
            · have hc : Cool y L (x :: t) := cool_step (f := fun z => valI kvs (wo L z)) oL (fun z hz => (hrest z hz).2) bL hxg heq (fun z hz hlt => hno z (srt_take (go_srt oL.1) hx hz hlt)) ct
              have h2 := hcool _ hc
              rw [List.append_assoc]
              exact h2
          · rw [show decide (V.int (valI kvs (wo L x) + ((roomsOf (Eu y) y.many (wo L x)).length : Int) - 1) = V.int (valI kvs L)) = false from decide_eq_false fun z => heq (V.int.inj z)]
            refine iteF ⟨_, _, rfl, r811, fun z hz => ?_⟩
            rw [take_snoc hx] at hz
            rcases (List.mem_append (a := _)).mp hz with hz | hz
            · exact hno z hz
            · have ez := List.mem_singleton.mp hz
              rw [ez]
              exact heq
        · rintro σ H9 ⟨u4, u5, rfl, r4, hno⟩
          exfalso
          rw [List.length_map, List.take_length] at hno
          obtain ⟨x, hx, e⟩ := best_some oL hnil (fun z hz => (hrest z hz).2) bL
          exact hno x hx e
end
end Wk
/-! The law's own defs: a draw, two values alike, the sides. -/
namespace Wk
open PySem L2
/-- the law's row of draws -/
def RowAt (K : PySem.W.Frag) (H : Hp) (r a : Addr) (ns : List Int) : Prop := ∃ (i s c : Int), H r = some (.lst [.ref a, .int i, .int s, .int c]) ∧ SqL K (del H r) a (ns.map V.int) ∧ 0 ≤ i
def RowOk (K : PySem.W.Frag) (H : Hp) (r : Addr) : Prop := ∃ (a : Addr) (ns : List Int), RowAt K H r a ns
/-- all but the row is kept -/
def Draw (K : PySem.W.Frag) (H H' : Hp) (r : Addr) : Prop := Same (del H r) H' ∧ ∀ a ns, RowAt K H r a ns → RowAt K H' r a ns
theorem Draw.refl {K : PySem.W.Frag} (H : Hp) (r : Addr) : Draw K H H r := ⟨del_same, fun _ _ h => h⟩
theorem Draw.trans {K : PySem.W.Frag} {H H1 H2 : Hp} {r : Addr} (a : Draw K H H1 r) (b : Draw K H1 H2 r) : Draw K H H2 r := by
  refine ⟨fun p o e => ?_, fun c ns h => b.2 c ns (a.2 c ns h)⟩
  have hne : p ≠ r := fun z => by
    rw [z, del_at] at e
    cases e
  refine b.1 p o ?_
  rw [del_ne hne]
  exact a.1 p o e
theorem RowAt.mono {K : PySem.W.Frag} {H H' : Hp} {r a : Addr} {ns : List Int} (s : Same H H') (h : RowAt K H r a ns) : RowAt K H' r a ns := by
  obtain ⟨i, z, c, h1, h2, h3⟩ := h
  exact ⟨i, z, c, s _ _ h1, (Same.del s).seq h2, h3⟩
theorem RowOk.mono {K : PySem.W.Frag} {H H' : Hp} {r : Addr} (s : Same H H') (h : RowOk K H r) : RowOk K H' r := by
  obtain ⟨a, ns, h⟩ := h
  exact ⟨a, ns, h.mono s⟩
theorem Draw.row {K : PySem.W.Frag} {H H' : Hp} {r : Addr} (d : Draw K H H' r) (h : RowOk K H r) : RowOk K H' r := by
  obtain ⟨a, ns, h⟩ := h
  exact ⟨a, ns, d.2 a ns h⟩
theorem Draw.same {K : PySem.W.Frag} {H H1 H2 : Hp} {r : Addr} (a : Draw K H H1 r) (s : Same H1 H2) : Draw K H H2 r := ⟨a.1.trans s, fun c ns h => (a.2 c ns h).mono s⟩
theorem Draw.at {K : PySem.W.Frag} {H H' : Hp} {r p : Addr} {o : HO} (d : Draw K H H' r) (hne : p ≠ r) (h : H p = some o) : H' p = some o := d.1 p o (by rw [del_ne hne]; exact h)
theorem Draw.tup {K : PySem.W.Frag} {H H' : Hp} {r p : Addr} {xs : List V} (d : Draw K H H' r) (hr : RowOk K H r) (h : H p = some (.tup xs)) : H' p = some (.tup xs) := by
  obtain ⟨_, _, _, _, _, h1, _⟩ := hr
  exact d.at (ne_of h h1 (by intro z; cases z)) h
theorem Draw.tu {K : PySem.W.Frag} {H H' : Hp} {r : Addr} {v : V} {ns : List Nat} (d : Draw K H H' r) (hr : RowOk K H r) (h : Tu H v ns) : Tu H' v ns := by
  obtain ⟨a, e, h⟩ := h
  exact ⟨a, e, d.tup hr h⟩
theorem Draw.yd {K : PySem.W.Frag} {H H' : Hp} {r : Addr} {v : V} {y : Yard} (d : Draw K H H' r) (hr : RowOk K H r) (h : Yd H v y) : Yd H' v y := by
  obtain ⟨k, a, b, ps, e, h1, h2, h3⟩ := h
  exact ⟨k, a, b, ps, e, d.tup hr h1, d.tup hr h2, paired_mono (fun p w q => d.tup hr q) h3⟩
/-- another list is changed -/
theorem Draw.put {K : PySem.W.Frag} {H H' : Hp} {r l : Addr} {o : HO} (d : Draw K H H' r) (hl : (del H r) l = none) (hne : l ≠ r) : Draw K H (upd H' l o) r := by
  have s : Same (del H r) (upd H' l o) := Same.upd d.1 hl
  refine ⟨s, fun a ns h => ?_⟩
  obtain ⟨i, z, c, h1, h2, h3⟩ := d.2 a ns h
  obtain ⟨_, _, _, _, g2, _⟩ := h
  refine ⟨i, z, c, by rw [upd_ne hne.symm]; exact h1, ?_, h3⟩
  have s2 : Same (del H r) (del (upd H' l o) r) := fun p u e => by
    have hp : p ≠ r := fun q => by
      rw [q, del_at] at e
      cases e
    rw [del_ne hp]
    exact s p u e
  exact s2.seq g2
/-- a row's item is stored -/
theorem RowOk.put {K : PySem.W.Frag} {H : Hp} {r a : Addr} {i s c : Int} {rest : List V} (h1 : H r = some (.lst (.ref a :: rest))) (hi : 0 ≤ i) : Draw K H (upd H r (.lst [.ref a, .int i, .int s, .int c])) r := by
  refine ⟨fun p o e => ?_, fun b ns ⟨_, _, _, g1, g2, _⟩ => ?_⟩
  · have hne : p ≠ r := fun z => by
      rw [z, del_at] at e
      cases e
    rw [upd_ne hne]
    exact del_same _ _ e
  · rw [h1] at g1
    have e := HO.lst.inj (Option.some.inj g1)
    have e2 := V.ref.inj (List.cons.inj e).1
    subst e2
    exact ⟨i, s, c, upd_same, by rw [del_upd]; exact g2, hi⟩
theorem ixN0 (n : Nat) : ixN (n + 1) 0 = some 0 := by
  unfold ixN
  rw [if_pos (by decide), if_pos (by omega)]
  rfl
def spTaken (K : PySem.W.Frag) : Sp := fun vs H Q _ => ∃ (r : Addr) (n : Nat), vs = [.ref r, vn n] ∧ 1 ≤ n ∧ n ≤ 1000 ∧ RowOk K H r ∧ ∀ H' (k : Nat), Draw K H H' r → k < n → Q (vn k) H'
theorem fmod_nat (x : Int) {n : Nat} (h : 1 ≤ n) : ∃ k : Nat, x.fmod (n : Int) = (k : Int) ∧ k < n := by
  rw [Int.fmod_eq_emod_of_nonneg x (by omega)]
  have h1 := Int.emod_nonneg x (show (n : Int) ≠ 0 by omega)
  have h2 := Int.emod_lt_of_pos x (show (0 : Int) < (n : Int) by omega)
  exact ⟨(x % (n : Int)).toNat, by omega, by omega⟩
def spAlike0 : Sp := fun vs H Q _ => ∃ i : Int, vs = [.int i, .int i] ∧ ∀ H', Same H H' → Q (.bl true) H'
def spAlike : Sp := fun vs H Q _ => ∃ (a b : Addr) (ns : List Int), vs = [.ref a, .ref b] ∧ ns.length ≤ 100 ∧ ((H a = some (.lst (ns.map V.int)) ∧ H b = some (.lst (ns.map V.int))) ∨ (H a = some (.tup (ns.map V.int)) ∧ H b = some (.tup (ns.map V.int)))) ∧ ∀ H', Same H H' → Q (.bl true) H'
theorem k_it : kitB "int" "tuple" = some false := by decide +kernel
theorem k_il : kitB "int" "list" = some false := by decide +kernel
theorem k_is' : kitB "int" "str" = some false := by decide +kernel
theorem k_ll : kitB "list" "list" = some true := by decide +kernel
theorem k_lt : kitB "list" "tuple" = some false := by decide +kernel
theorem k_tl : kitB "tuple" "list" = some false := by decide +kernel
section
variable {P : Program} {w : World} {K : PySem.W.Frag} {mg : Str → Option Value} {base : Heap} {f : Addr} {fd : FuncData}
theorem any_it : PySem.W.kitAny K (.type "int") [.type "tuple", .type "list"] = some false := kitAny_cons (kit_ty k_it) (fun _ => kitAny_cons (kit_ty k_il) (fun _ => kitAny_nil) (fun h => h)) (fun h => h)
theorem any_lt : PySem.W.kitAny K (.type "list") [.type "tuple", .type "list"] = some true := kitAny_cons (kit_ty k_lt) (fun _ => kitAny_cons (kit_ty k_ll) (fun h => nomatch h) (fun h => h)) (fun h => nomatch h)
theorem any_tt : PySem.W.kitAny K (.type "tuple") [.type "tuple", .type "list"] = some true := kitAny_cons (kit_ty k_tt) (fun h => nomatch h) (fun h => h)
theorem ok_taken (F : Fun K "_law_taken" "_law_taken" s__law_taken f fd) (T : Txt mg) : FnOk P w K mg base CX0 1 f fd ["_law_row", "_law_many"] (spTaken K) := by
  refine F.ok sc__law_taken (fun vs H Q E h => ?_) (fun cdv A outer s H vs Q E hr h => ?_)
  · obtain ⟨r, n, rfl, _⟩ := h
    rfl
  · obtain ⟨r, n, rfl, hn1, hn2, ⟨a, ns, i, s, c, h1, h2, h3⟩, q⟩ := h
    have cdiv : ∀ j : Int, CDivN j (n : Int) := fun j => ⟨by omega, by omega⟩
    have hn0 : (n : Int) ≠ 0 := by omega
    refine ⟨_, (pss_cons (ps_if (pt_cmpR op_gt (pe_ix (ixLK K) (pv 0) pe_int (fun _ _ => rfl)) pe_int (nomark _))
      (pss_cons (ps_set (i := 2) sc__law_taken.nd rfl (Or.inl rfl) (pe_op op_modN (pe_callTy call_int1 (by rfl) T.int b_int (pa_cons (pe_ix (ixLK K) (pv 0) pe_int (fun _ _ => rfl)) pa_nil)) (pv 1)))
        (pss_cons (ps_asg (pe_op op_fdivN (pe_ix (ixLK K) (pv 0) pe_int (fun _ _ => rfl)) (pv 1)) (pg_sub (pv 0) pe_int set_list))
        (pss_one (ps_ret (pv 2)))))
      pss_nil)
      (pss_cons (ps_asg (pe_op op_add (pe_ix (ixLK K) (pv 0) pe_int (fun _ _ => rfl)) pe_int) (pg_sub (pv 0) pe_int set_list))
      (pss_cons (ps_if (pt_cmpR op_gt (pe_ix (ixLK K) (pv 0) pe_int (fun _ _ => rfl)) (pe_callB (lenK K) (by rfl) T.len b_len (pa_cons (pe_ix (ixLK K) (pv 0) pe_int (fun _ _ => rfl)) pa_nil)) (nomark _))
      (pss_cons (ps_asg (pe_op op_modN (pe_callTy call_int1 (by rfl) T.int b_int (pa_cons (pe_op op_add (pe_op op_mul (pe_ix (ixLK K) (pv 0) pe_int (fun _ _ => rfl)) pe_int) pe_int) pa_nil)) pe_int) (pg_sub (pv 0) pe_int set_list))
        (pss_one (ps_ret (pe_op op_modN (pe_callTy call_int1 (by rfl) T.int b_int (pa_cons (pe_op op_fdivN (pe_ix (ixLK K) (pv 0) pe_int (fun _ _ => rfl)) pe_int) pa_nil)) (pv 1)))))
      pss_nil)
      (pss_cons (ps_set (i := 3) sc__law_taken.nd rfl (Or.inl rfl) (pe_ix (ixLK K) (pe_ix (ixLK K) (pv 0) pe_int (fun _ _ => rfl)) (pe_op op_sub (pe_ix (ixLK K) (pv 0) pe_int (fun _ _ => rfl)) pe_int) (fun _ _ => rfl)))
      (pss_cons (ps_asg (pe_op op_modN (pe_callTy call_int1 (by rfl) T.int b_int (pa_cons (pe_op op_add (pe_op op_add (pe_op op_mul (pe_ix (ixLK K) (pv 0) pe_int (fun _ _ => rfl)) pe_int) (pv 3)) pe_int) pa_nil)) pe_int) (pg_sub (pv 0) pe_int set_list))
      (pss_cons (ps_if (pt_cmpR op_ge (pv 3) (pe_op op_pow pe_int pe_int) (nomark _))
      (pss_one (ps_asg (pe_op op_fdivN (pv 3) (pv 1)) (pg_sub (pv 0) pe_int set_list)))
      pss_nil)
      (pss_one (ps_ret (pe_op op_modN (pe_callTy call_int1 (by rfl) T.int b_int (pa_cons (pv 3) pa_nil)) (pv 1)))))))))), ?_⟩
    refine ⟨_, rfl, r, _, 3, _, rfl, rfl, SqL.of h1, rfl, _, _, rfl, rfl, _, rfl, ?_⟩
    by_cases hc : 0 < c
    · rw [decide_eq_true hc]
      refine iteT ?_
      refine ⟨_, rfl, r, _, 3, _, rfl, rfl, SqL.of h1, rfl, .inl ⟨_, rfl, _, rfl, _, _, rfl, rfl, hn0, ?_⟩⟩
      obtain ⟨k, ek, hk⟩ := fmod_nat c hn1
      refine ⟨_, rfl, r, _, 3, _, rfl, rfl, SqL.of h1, rfl, _, rfl, _, _, rfl, rfl, cdiv c, _, rfl, r, _, 3, 3, rfl, rfl, h1, rfl, ?_⟩
      have q1 : Q (V.int (k : Int)) _ := q _ k (RowOk.put (c := c.fdiv n) (s := s) h1 h3) hk
      rw [← ek] at q1
      exact ⟨_, rfl, q1⟩
    · rw [decide_eq_false hc]
      refine iteF ?_
      refine ⟨_, rfl, r, _, 1, _, rfl, rfl, SqL.of h1, rfl, _, _, rfl, rfl, _, rfl, r, _, 1, 1, rfl, rfl, h1, rfl, ?_⟩
      have d1 : Draw K H (upd H r (.lst [.ref a, .int (i + 1), .int s, .int c])) r := RowOk.put h1 (by omega)
      show _
      have g1 : (upd H r (.lst [.ref a, .int (i + 1), .int s, .int c])) r = some (.lst [.ref a, .int (i + 1), .int s, .int c]) := upd_same
      have g2 : SqL K (del (upd H r (.lst [.ref a, .int (i + 1), .int s, .int c])) r) a (ns.map V.int) := by
        rw [del_upd]
        exact h2
      have g3 : SqL K (upd H r (.lst [.ref a, .int (i + 1), .int s, .int c])) a (ns.map V.int) := del_same.seq g2
      generalize hH1 : upd H r (.lst [.ref a, .int (i + 1), .int s, .int c]) = H1 at d1 g1 g2 g3
      refine Eq.mpr (congrArg _ (show upd H r (.lst ([V.ref a, .int i, .int s, .int c].set 1 (.int (i + 1)))) = H1 from hH1)) ?_
      refine ⟨_, rfl, r, _, 1, _, rfl, rfl, SqL.of g1, rfl, _, rfl, r, _, 0, _, rfl, rfl, SqL.of g1, rfl, a, _, rfl, .inl g3, _, _, rfl, rfl, _, rfl, ?_⟩
      rw [List.length_map]
      by_cases hl : (ns.length : Int) < i + 1
      · rw [decide_eq_true hl]
        refine iteT ?_
        refine ⟨_, rfl, r, _, 2, _, rfl, rfl, SqL.of g1, rfl, _, _, rfl, rfl, .inr ⟨by decide, by decide⟩, _, _, rfl, rfl, .inl ⟨_, rfl, _, _, rfl, rfl, (show (2147483647 : Int) ≠ 0 by decide), ?_⟩⟩
        refine ⟨_, rfl, r, _, 2, 2, rfl, rfl, g1, rfl, ?_⟩
        have d2 := RowOk.put (K := K) (H := H1) (r := r) (a := a) (i := i + 1) (s := (s * 48271 + 11).fmod 2147483647) (c := c) g1 (by omega)
        have e2 : (upd H1 r (.lst [.ref a, .int (i + 1), .int ((s * 48271 + 11).fmod 2147483647), .int c])) r = some (.lst [.ref a, .int (i + 1), .int ((s * 48271 + 11).fmod 2147483647), .int c]) := upd_same
        obtain ⟨k, ek, hk⟩ := fmod_nat (((s * 48271 + 11).fmod 2147483647).fdiv 7) hn1
        refine ⟨_, rfl, r, _, 2, _, rfl, rfl, SqL.of e2, rfl, _, _, rfl, rfl, ⟨by decide, by decide⟩, .inl ⟨_, rfl, _, rfl, _, _, rfl, rfl, hn0, ?_⟩⟩
        have q1 : Q (V.int (k : Int)) _ := q _ k (d1.trans d2) hk
        rw [← ek] at q1
        exact q1
      · rw [decide_eq_false hl]
        refine iteF ?_
        obtain ⟨j, hj⟩ : ∃ j : Nat, i = (j : Int) := ⟨i.toNat, by omega⟩
        have hjl : j < ns.length := by omega
        have gx : (ns.map V.int)[j]? = some (.int ns[j]) := by
          rw [List.getElem?_map, List.getElem?_eq_getElem hjl]
          rfl
        have gat : atI (ns.map V.int) (i + 1 - 1) = some (.int ns[j]) := by
          rw [show i + 1 - 1 = (j : Int) by omega]
          exact atI_nat gx
        generalize ns[j] = cell at gx gat
        refine ⟨_, rfl, r, _, 0, _, rfl, rfl, SqL.of g1, rfl, _, rfl, r, _, 1, _, rfl, rfl, SqL.of g1, rfl, _, _, rfl, rfl, a, _, _, _, rfl, rfl, g3, gat, ?_⟩
        refine ⟨_, rfl, r, _, 2, _, rfl, rfl, SqL.of g1, rfl, _, _, rfl, rfl, .inr ⟨by decide, by decide⟩, _, rfl, _, _, rfl, rfl, _, _, rfl, rfl, .inl ⟨_, rfl, _, _, rfl, rfl, (show (2147483647 : Int) ≠ 0 by decide), ?_⟩⟩
        refine ⟨_, rfl, r, _, 2, 2, rfl, rfl, g1, rfl, ?_⟩
        have d2 := RowOk.put (K := K) (H := H1) (r := r) (a := a) (i := i + 1) (s := (s * 48271 + cell + 11).fmod 2147483647) (c := c) g1 (by omega)
        have e2 : (upd H1 r (.lst [.ref a, .int (i + 1), .int ((s * 48271 + cell + 11).fmod 2147483647), .int c])) r = some (.lst [.ref a, .int (i + 1), .int ((s * 48271 + cell + 11).fmod 2147483647), .int c]) := upd_same
        have e3 : SqL K (del (upd H1 r (.lst [.ref a, .int (i + 1), .int ((s * 48271 + cell + 11).fmod 2147483647), .int c])) r) a (ns.map V.int) := by
          rw [del_upd]
          exact g2
        obtain ⟨k, ek, hk⟩ := fmod_nat cell hn1
        refine ⟨_, rfl, _, _, rfl, rfl, ⟨by decide, by decide, by decide⟩, _, _, rfl, rfl, _, rfl, ite2 (fun hge => ?_) (fun hge => ?_)⟩
        · refine ⟨_, rfl, _, rfl, _, _, rfl, rfl, cdiv _, _, rfl, r, _, 3, 3, rfl, rfl, e2, rfl, ?_⟩
          refine ⟨_, rfl, .inl ⟨_, rfl, _, rfl, _, _, rfl, rfl, hn0, ?_⟩⟩
          have q1 : Q (V.int (k : Int)) _ := q _ k ((d1.trans d2).trans (RowOk.put (c := cell.fdiv n) (i := i + 1) (s := (s * 48271 + cell + 11).fmod 2147483647) e2 (by omega))) hk
          rw [← ek] at q1
          exact q1
        · refine ⟨_, rfl, .inl ⟨_, rfl, _, rfl, _, _, rfl, rfl, hn0, ?_⟩⟩
          have q1 : Q (V.int (k : Int)) _ := q _ k (d1.trans d2) hk
          rw [← ek] at q1
          exact q1
theorem ok_law_sides (F : Fun K "_law_sides" "_law_sides" s__law_sides f fd) (T : Txt mg) : FnOk P w K mg base CX0 1 f fd ["_law_shut"] spSides := by
  refine F.ok sc__law_sides (fun vs H Q E h => ?_) (fun cdv A outer s H vs Q E hr h => ?_)
  · obtain ⟨p, w, rfl, _⟩ := h
    rfl
  · obtain ⟨p, ⟨lo, hi, si⟩, rfl, hp, h3, q⟩ := h
    have h3 : si ≤ 2 := h3
    refine ⟨_, (pss_one (ps_ret (pe_ix (ixLK K) (pe_lst (pa_cons (pe_slice (slTK K) (pv 0) po_none (po_some pe_int)) (pa_cons (pe_slice (slTK K) (pv 0) (po_some pe_int) (po_some pe_int)) (pa_cons (pe_slice (slTK K) (pv 0) po_none (po_some pe_int)) pa_nil)))) (pe_ix (ixTK K) (pv 0) pe_int (fun _ _ => rfl)) (fun _ _ => rfl)))), ?_⟩
    refine ⟨_, rfl, 1, rfl, p, tw (lo, hi, si), rfl, SqT.of hp, fun hw => absurd (show (1 : Nat) = 3 from hw.2) (by decide), fun _ p1 n1 => ?_⟩
    have s1 : Same H (upd H p1 (.tup [vn lo])) := same_upd n1
    refine ⟨_, rfl, 1, rfl, 2, rfl, p, tw (lo, hi, si), rfl, SqT.of (s1 _ _ hp), fun hw => absurd (show (1 : Nat) = 0 from hw.1) (by decide), fun _ p2 n2 => ?_⟩
    have s2 : Same (upd H p1 (.tup [vn lo])) (upd (upd H p1 (.tup [vn lo])) p2 (.tup [vn hi])) := same_upd n2
    refine ⟨_, rfl, 2, rfl, p, tw (lo, hi, si), rfl, SqT.of (s2 _ _ (s1 _ _ hp)), fun hw => absurd (show (2 : Nat) = 3 from hw.2) (by decide), fun _ p3 n3 => ?_⟩
    have s3 : Same (upd (upd H p1 (.tup [vn lo])) p2 (.tup [vn hi])) (upd (upd (upd H p1 (.tup [vn lo])) p2 (.tup [vn hi])) p3 (.tup [vn lo, vn hi])) := same_upd n3
    refine ⟨sz (by simp), fun l nl => ?_⟩
    have s4 : Same (upd (upd (upd H p1 (.tup [vn lo])) p2 (.tup [vn hi])) p3 (.tup [vn lo, vn hi])) (upd (upd (upd (upd H p1 (.tup [vn lo])) p2 (.tup [vn hi])) p3 (.tup [vn lo, vn hi])) l (.lst [V.ref p1, V.ref p2, V.ref p3])) := same_upd nl
    have f1 : H p1 = none := n1
    have f2 : H p2 = none := s1.free n2
    have f3 : H p3 = none := s1.free (s2.free n3)
    have sA := ((s1.trans s2).trans s3).trans s4
    have e1 := ((s2.trans s3).trans s4) _ _ (upd_same (H := H) (a := p1) (o := .tup [vn lo]))
    have e2 := (s3.trans s4) _ _ (upd_same (a := p2) (o := .tup [vn hi]))
    have e3 := s4 _ _ (upd_same (a := p3) (o := .tup [vn lo, vn hi]))
    have hpA := sA _ _ hp
    have c : si = 0 ∨ si = 1 ∨ si = 2 := by omega
    rcases c with rfl | rfl | rfl
    · exact ⟨_, rfl, p, _, 2, _, rfl, rfl, SqT.of hpA, rfl, l, _, 0, _, rfl, rfl, SqL.of upd_same, rfl, q _ p1 sA f1 e1⟩
    · exact ⟨_, rfl, p, _, 2, _, rfl, rfl, SqT.of hpA, rfl, l, _, 1, _, rfl, rfl, SqL.of upd_same, rfl, q _ p2 sA f2 e2⟩
    · exact ⟨_, rfl, p, _, 2, _, rfl, rfl, SqT.of hpA, rfl, l, _, 2, _, rfl, rfl, SqL.of upd_same, rfl, q _ p3 sA f3 e3⟩
theorem ok_alike0 (F : Fun K "_law_alike" "_law_alike" s__law_alike f fd) (T : Txt mg) : FnOk P w K mg base CX0 1 f fd ["_law_found", "_law_due"] spAlike0 := by
  refine F.ok sc__law_alike (fun vs H Q E h => ?_) (fun cdv A outer s H vs Q E hr h => ?_)
  · obtain ⟨i, rfl, _⟩ := h
    rfl
  · obtain ⟨i, rfl, q⟩ := h
    refine ⟨_, (pss_cons (ps_if (pt_val (pe_callB (isiTK K) (by rfl) T.isinstance b_isinstance (pa_cons (pv 1) (pa_cons (pe_tup (pa_cons (pe_bltn (v := .ty "tuple") rfl T.tuple b_tuple rfl) (pa_cons (pe_bltn (v := .ty "list") rfl T.list b_list rfl) pa_nil))) pa_nil)))) pss_never pss_nil)
      (pss_cons (ps_if (PW.pt (pw_or (pt_cmpR op_isN (pv 1) pe_non (nomark _)) (pw_or1 (pt_val (pe_callB (isiK K) (by rfl) T.isinstance b_isinstance (pa_cons (pv 1) (pa_cons (pe_bltn (v := .ty "str") rfl T.str b_str rfl) pa_nil)))))))
      (pss_one (ps_ret (pe_and (pe_cmpR (op_eqD hr.units) (pv 0) (pv 1) (nomark _)) (pe_one (pe_cmpR op_eq (pe_callB (isiK K) (by rfl) T.isinstance b_isinstance (pa_cons (pv 0) (pa_cons (pe_bltn (v := .ty "str") rfl T.str b_str rfl) pa_nil))) (pe_callB (isiK K) (by rfl) T.isinstance b_isinstance (pa_cons (pv 1) (pa_cons (pe_bltn (v := .ty "str") rfl T.str b_str rfl) pa_nil))) (nomark _))))))
      pss_nil)
      (pss_one (ps_ret (pe_and (pe_callB (isiK K) (by rfl) T.isinstance b_isinstance (pa_cons (pv 0) (pa_cons (pe_bltn (v := .ty "int") rfl T.int b_int rfl) pa_nil))) (pe_and (pe_cmpR op_eq (pe_callB (isiK K) (by rfl) T.isinstance b_isinstance (pa_cons (pv 0) (pa_cons (pe_bltn (v := .ty "bool") rfl T.bool b_bool rfl) pa_nil))) (pe_callB (isiK K) (by rfl) T.isinstance b_isinstance (pa_cons (pv 1) (pa_cons (pe_bltn (v := .ty "bool") rfl T.bool b_bool rfl) pa_nil))) (nomark _)) (pe_one (pe_cmpR (op_eqD hr.units) (pv 0) (pv 1) (nomark _))))))))), ?_⟩
    refine ⟨_, rfl, sz (by simp), fun t nt => ⟨_, t, _, _, _, _, rfl, upd_same, .cons (.ty _) (.cons (.ty _) .nil), .base (.int i), any_it, false, rfl, iteF ?_⟩⟩
    refine ⟨_, rfl, rfl, false, rfl, iteF ?_⟩
    refine ⟨_, rfl, _, _, _, _, _, rfl, .ty _, .base (.int i), kit_ty k_is', false, rfl, iteF ?_⟩
    refine ⟨_, rfl, _, _, _, _, _, rfl, .ty _, .base (.int i), kit_ty k_ii, true, rfl, iteT ?_⟩
    refine ⟨_, rfl, _, _, _, _, _, rfl, .ty _, .base (.int i), kit_ty k_ib, _, rfl, _, _, _, _, _, rfl, .ty _, .base (.int i), kit_ty k_ib, rfl, true, rfl, iteT ?_⟩
    refine ⟨_, rfl, _, rfl, _, _, .int i, .int i, rfl, rfl, ?_⟩
    rw [SeqAt.eqv_refl (.int i) rfl]
    exact q _ (same_upd nt)
end
end Wk
/-! The law's own defs: lists alike, rooms come to, ways. -/
namespace Wk
open PySem L2
theorem ne_same (x : V) : (!decide (x = x)) = false := by
  rw [decide_eq_true rfl]
  rfl
/-- one round over the gaps, told by nothing -/
def Pass2 (E : Rl) (n : Nat) (L ks0 : List Nat) (i : Nat) (ks : List Nat) : Prop :=
  Good E n L ks ∧ ((ks = ks0 ∧ ClosedOn E (L.take i) ks0) ∨ (¬ ClosedOn E L ks0 ∧ ks0.length < ks.length))
theorem Pass2.start {E : Rl} {n : Nat} {L ks : List Nat} (g : Good E n L ks) : Pass2 E n L ks 0 ks := ⟨g, .inl ⟨rfl, fun x hx => by simp at hx⟩⟩
theorem Pass2.done {E : Rl} {n t : Nat} {L ks0 ks : List Nat} (h : Pass2 E n L ks0 L.length ks) (c : ClosedOn E L ks0 ∨ t + 1 ≤ ks0.length) : Good E n L ks ∧ (ClosedOn E L ks ∨ t + 1 + 1 ≤ ks.length) := by
  obtain ⟨g, h⟩ := h
  refine ⟨g, ?_⟩
  rcases h with ⟨e, z⟩ | ⟨no, l⟩
  · rw [List.take_length] at z
    exact .inl (by rw [e]; exact z)
  · rcases c with c | c
    · exact (no c).elim
    · exact .inr (by omega)
theorem Good.shut {E : Rl} {n : Nat} {L ks : List Nat} (g : Good E n L ks) (c : ClosedOn E L ks ∨ n + 1 ≤ ks.length) : ClosedOn E L ks := by
  rcases c with c | c
  · exact c
  · have := g.len
    omega
def spWays : Sp := fun vs H Q _ => ∃ (v : V) (y : Yard) (a : Addr) (L : List Nat), vs = [v, .ref a, .int 0] ∧ Yd H v y ∧ H a = some (.tup (tn L)) ∧ (∀ x ∈ L, x < y.m) ∧ ∀ (H' : Hp) (d : Addr) (kvs : List (Key × V)), Same H H' → H d = none → H' d = some (.dK kvs) → kvs.length = J y L → Q (.ref d) H'
abbrev kn (n : Nat) : Key := Sum.inl (n : Int)
theorem kn_inj {a b : Nat} (h : kn a = kn b) : a = b := by
  have := Sum.inl.inj h
  omega
theorem has_key {kvs : List (Key × V)} {ks : List Nat} (h : kvs.map (·.1) = ks.map kn) {x : Nat} (hx : x ∉ ks) : valV kvs (kn x) = none := by
  cases e : valV kvs (kn x) with
  | none => rfl
  | some v =>
    exfalso
    have h1 := valV_any (kn x) kvs
    rw [e] at h1
    obtain ⟨kv, h2, h3⟩ := List.any_eq_true.mp h1
    have h4 : kn x ∈ kvs.map (·.1) := List.mem_map.mpr ⟨kv, h2, of_decide_eq_true h3⟩
    rw [h] at h4
    obtain ⟨z, h5, h6⟩ := List.mem_map.mp h4
    exact hx (kn_inj h6 ▸ h5)
/-- a dict of rooms and distances -/
def DistOk (kvs : List (Key × V)) (ks : List Nat) : Prop := kvs.map (·.1) = ks.map kn ∧ ∀ k ∈ ks, ∃ d : Nat, valV kvs (kn k) = some (vn d) ∧ d < ks.length
theorem DistOk.again {kvs : List (Key × V)} {ks : List Nat} (h : DistOk kvs ks) {x d : Nat} (hx : x ∈ ks) (hd : d < ks.length) : DistOk (putK kvs (kn x) (vn d)) ks := by
  obtain ⟨h1, h2⟩ := h
  refine ⟨?_, fun k hk => ?_⟩
  · have hm : kn x ∈ kvs.map (·.1) := by
      rw [h1]
      exact List.mem_map.mpr ⟨x, hx, rfl⟩
    obtain ⟨kv, g1, g2⟩ := List.mem_map.mp hm
    unfold putK
    rw [if_pos (List.any_eq_true.mpr ⟨kv, g1, decide_eq_true g2⟩), List.map_map, ← h1]
    exact List.map_congr_left fun kv _ => by
      show (if kv.1 = kn x then (kv.1, vn d) else kv).1 = kv.1
      split <;> rfl
  · rw [valV_put]
    by_cases e : kn k = kn x
    · rw [if_pos e]
      exact ⟨d, rfl, hd⟩
    · rw [if_neg e]
      exact h2 k hk
theorem DistOk.more {kvs : List (Key × V)} {ks : List Nat} (h : DistOk kvs ks) {x d : Nat} (hx : x ∉ ks) (hd : d ≤ ks.length) : DistOk (putK kvs (kn x) (vn d)) (ks ++ [x]) := by
  have hn := has_key h.1 hx
  obtain ⟨h1, h2⟩ := h
  refine ⟨?_, fun k hk => ?_⟩
  · rw [putK_new _ hn, List.map_append, List.map_append, h1]
    rfl
  · rw [valV_put, List.length_append, List.length_singleton]
    by_cases e : kn k = kn x
    · rw [if_pos e]
      exact ⟨d, rfl, by omega⟩
    · rw [if_neg e]
      rcases List.mem_append.mp hk with q | q
      · obtain ⟨d', e1, e2⟩ := h2 k q
        exact ⟨d', e1, by omega⟩
      · rw [List.mem_singleton.mp q] at e
        exact (e rfl).elim
section
variable {P : Program} {w : World} {K : PySem.W.Frag} {mg : Str → Option Value} {base : Heap} {f : Addr} {fd : FuncData}
theorem ok_alike (c__law_alike : Cal P w K mg base 1 "_law_alike" ["_law_found", "_law_due"] spAlike0) (F : Fun K "_law_alike" "_law_alike" s__law_alike f fd) (T : Txt mg) : FnOk P w K mg base CX0 2 f fd ["_law_found", "_law_due"] spAlike := by
  refine F.ok sc__law_alike (fun vs H Q E h => ?_) (fun cdv A outer s H vs Q E hr h => ?_)
  · obtain ⟨a, b, ns, rfl, _⟩ := h
    rfl
  · obtain ⟨a, b, ns, rfl, hlen, hab, q⟩ := h
    refine ⟨_, (pss_cons (ps_if (pt_val (pe_callB (isiTK K) (by rfl) T.isinstance b_isinstance (pa_cons (pv 1) (pa_cons (pe_tup (pa_cons (pe_bltn (v := .ty "tuple") rfl T.tuple b_tuple rfl) (pa_cons (pe_bltn (v := .ty "list") rfl T.list b_list rfl) pa_nil))) pa_nil))))
      (pss_cons (ps_if (PW.pt (pw_or (pt_not (pt_val (pe_callB (isiTK K) (by rfl) T.isinstance b_isinstance (pa_cons (pv 0) (pa_cons (pe_tup (pa_cons (pe_bltn (v := .ty "tuple") rfl T.tuple b_tuple rfl) (pa_cons (pe_bltn (v := .ty "list") rfl T.list b_list rfl) pa_nil))) pa_nil))))) (pw_or1 (pt_cmpR op_ne (pe_callB (isiK K) (by rfl) T.isinstance b_isinstance (pa_cons (pv 0) (pa_cons (pe_bltn (v := .ty "list") rfl T.list b_list rfl) pa_nil))) (pe_callB (isiK K) (by rfl) T.isinstance b_isinstance (pa_cons (pv 1) (pa_cons (pe_bltn (v := .ty "list") rfl T.list b_list rfl) pa_nil))) (nomark _)))))
        (pss_one (ps_ret pe_bl))
        pss_nil)
        (pss_cons (ps_if (pt_cmpR op_ne (pe_callB (lenK K) (by rfl) T.len b_len (pa_cons (pv 0) pa_nil)) (pe_callB (lenK K) (by rfl) T.len b_len (pa_cons (pv 1) pa_nil)) (nomark _))
        (pss_one (ps_ret pe_bl))
        pss_nil)
        (pss_one (ps_ret (pe_cmpR (op_eqD hr.units) (pe_lc (own := [("_law_k", 2)]) (g := gName 2) (by rfl) sc__law_alike.nd (pi_range1 (by rfl) T.range (pa_cons (pe_callB (lenK K) (by rfl) T.len b_len (pa_cons (pv 1) pa_nil)) pa_nil)) (blkOk_by (by kernel_rfl)) (fun _ _ _ _ _ => pg_name (i := 2) sc__law_alike.nd rfl (Or.inl rfl)) (fun _ _ _ _ _ => pts_one (pt_not (pt_val (pf c__law_alike hr (by decide) (by rfl) (pa_cons (pe_ix (ixSK K) (pv 0) (pv 2) (fun _ _ => rfl)) (pa_cons (pe_ix (ixSK K) (pv 1) (pv 2) (fun _ _ => rfl)) pa_nil)))))) (fun _ _ _ _ _ => (pv 2))) (pe_lst pa_nil) (nomark _))))))
      pss_nil)
      (pss_cons (ps_if (PW.pt (pw_or (pt_cmpR op_isN (pv 1) pe_non (nomark _)) (pw_or1 (pt_val (pe_callB (isiK K) (by rfl) T.isinstance b_isinstance (pa_cons (pv 1) (pa_cons (pe_bltn (v := .ty "str") rfl T.str b_str rfl) pa_nil)))))))
      (pss_one (ps_ret (pe_and (pe_cmpR (op_eqD hr.units) (pv 0) (pv 1) (nomark _)) (pe_one (pe_cmpR op_eq (pe_callB (isiK K) (by rfl) T.isinstance b_isinstance (pa_cons (pv 0) (pa_cons (pe_bltn (v := .ty "str") rfl T.str b_str rfl) pa_nil))) (pe_callB (isiK K) (by rfl) T.isinstance b_isinstance (pa_cons (pv 1) (pa_cons (pe_bltn (v := .ty "str") rfl T.str b_str rfl) pa_nil))) (nomark _))))))
      pss_nil)
      (pss_one (ps_ret (pe_and (pe_callB (isiK K) (by rfl) T.isinstance b_isinstance (pa_cons (pv 0) (pa_cons (pe_bltn (v := .ty "int") rfl T.int b_int rfl) pa_nil))) (pe_and (pe_cmpR op_eq (pe_callB (isiK K) (by rfl) T.isinstance b_isinstance (pa_cons (pv 0) (pa_cons (pe_bltn (v := .ty "bool") rfl T.bool b_bool rfl) pa_nil))) (pe_callB (isiK K) (by rfl) T.isinstance b_isinstance (pa_cons (pv 1) (pa_cons (pe_bltn (v := .ty "bool") rfl T.bool b_bool rfl) pa_nil))) (nomark _)) (pe_one (pe_cmpR (op_eqD hr.units) (pv 0) (pv 1) (nomark _))))))))), ?_⟩
    rcases hab with ⟨ha, hb⟩ | ⟨ha, hb⟩
    · refine ⟨_, rfl, sz (by simp), fun t nt => ⟨_, t, _, _, _, _, rfl, upd_same, .cons (.ty _) (.cons (.ty _) .nil), .base (.lst (same_upd nt _ _ hb)), any_lt, true, rfl, iteT ?_⟩⟩
      have s1 : Same H (upd H t (.tup [.ty "tuple", .ty "list"])) := same_upd nt
      generalize upd H t (.tup [.ty "tuple", .ty "list"]) = H1 at s1
      refine ⟨_, rfl, sz (by simp), fun t2 nt2 => ⟨_, t2, _, _, _, _, rfl, upd_same, .cons (.ty _) (.cons (.ty _) .nil), .base (.lst (same_upd nt2 _ _ (s1 _ _ ha))), any_lt, true, rfl, iteF ?_⟩⟩
      have s2 : Same H1 (upd H1 t2 (.tup [.ty "tuple", .ty "list"])) := same_upd nt2
      generalize upd H1 t2 (.tup [.ty "tuple", .ty "list"]) = H2 at s2
      have s12 := s1.trans s2
      have ha2 := s12 _ _ ha
      have hb2 := s12 _ _ hb
      refine ⟨_, rfl, _, _, _, _, _, rfl, .ty _, .base (.lst ha2), kit_ty k_ll, _, rfl, _, _, _, _, _, rfl, .ty _, .base (.lst hb2), kit_ty k_ll, rfl, _, rfl, iteF ?_⟩
      refine ⟨_, rfl, a, _, rfl, .inl (SqL.of ha2), _, rfl, b, _, rfl, .inl (SqL.of hb2), rfl, false, congrArg V.bl (ne_same _), iteF ?_⟩
      refine ⟨_, rfl, b, _, rfl, .inl (SqL.of hb2), _, rfl, by rw [List.length_map]; omega, by rw [List.length_map]; omega, fun D nD => ?_⟩
      rw [Int.toNat_natCast, List.length_map]
      refine lc_filtR (lo := 0) (n := ns.length) (fun _ => false) vn nD (by omega) ?_ ?_
      · intro x H3 N hx s3 _ hF
        obtain ⟨j, hj, rfl⟩ := List.mem_range'.mp hx
        have hj' : 0 + 1 * j < ns.length := by omega
        have gx : (ns.map V.int)[0 + 1 * j]? = some (.int ns[0 + 1 * j]) := by
          rw [List.getElem?_map, List.getElem?_eq_getElem hj']
          rfl
        refine ⟨rfl, ⟨_, rfl, _, rfl, .inl ⟨a, _, _, _, rfl, rfl, SqL.of (s3 _ _ ha2), atI_nat gx, ?_⟩⟩⟩
        refine ⟨_, rfl, _, rfl, .inl ⟨b, _, _, _, rfl, rfl, SqL.of (s3 _ _ hb2), atI_nat gx, ?_⟩⟩
        exact ⟨_, rfl, fun H4 s4 => ⟨true, rfl, hF rfl H4 s4⟩⟩
      · intro H3 s3 e3
        have e0 : ((List.range' 0 ns.length).filter fun _ => false).map vn = [] := by
          rw [List.filter_eq_nil_iff.mpr (fun _ _ => Bool.false_ne_true)]
          rfl
        rw [e0] at e3
        refine ⟨sz (by simp), fun e ne => ?_⟩
        have s4 : Same H3 (upd H3 e (.lst [])) := same_upd ne
        exact ⟨.list [], .list [], .lst (SqL.of (s4 _ _ e3)) .nil, .lst (SqL.of upd_same) .nil, rfl, rfl, q _ ((s12.trans s3).trans s4)⟩
    · refine ⟨_, rfl, sz (by simp), fun t nt => ⟨_, t, _, _, _, _, rfl, upd_same, .cons (.ty _) (.cons (.ty _) .nil), .base (.tup (same_upd nt _ _ hb)), any_tt, true, rfl, iteT ?_⟩⟩
      have s1 : Same H (upd H t (.tup [.ty "tuple", .ty "list"])) := same_upd nt
      generalize upd H t (.tup [.ty "tuple", .ty "list"]) = H1 at s1
      refine ⟨_, rfl, sz (by simp), fun t2 nt2 => ⟨_, t2, _, _, _, _, rfl, upd_same, .cons (.ty _) (.cons (.ty _) .nil), .base (.tup (same_upd nt2 _ _ (s1 _ _ ha))), any_tt, true, rfl, iteF ?_⟩⟩
      have s2 : Same H1 (upd H1 t2 (.tup [.ty "tuple", .ty "list"])) := same_upd nt2
      generalize upd H1 t2 (.tup [.ty "tuple", .ty "list"]) = H2 at s2
      have s12 := s1.trans s2
      have ha2 := s12 _ _ ha
      have hb2 := s12 _ _ hb
      refine ⟨_, rfl, _, _, _, _, _, rfl, .ty _, .base (.tup ha2), kit_ty k_tl, _, rfl, _, _, _, _, _, rfl, .ty _, .base (.tup hb2), kit_ty k_tl, rfl, _, rfl, iteF ?_⟩
      refine ⟨_, rfl, a, _, rfl, .inr (SqT.of ha2), _, rfl, b, _, rfl, .inr (SqT.of hb2), rfl, false, congrArg V.bl (ne_same _), iteF ?_⟩
      refine ⟨_, rfl, b, _, rfl, .inr (SqT.of hb2), _, rfl, by rw [List.length_map]; omega, by rw [List.length_map]; omega, fun D nD => ?_⟩
      rw [Int.toNat_natCast, List.length_map]
      refine lc_filtR (lo := 0) (n := ns.length) (fun _ => false) vn nD (by omega) ?_ ?_
      · intro x H3 N hx s3 _ hF
        obtain ⟨j, hj, rfl⟩ := List.mem_range'.mp hx
        have hj' : 0 + 1 * j < ns.length := by omega
        have gx : (ns.map V.int)[0 + 1 * j]? = some (.int ns[0 + 1 * j]) := by
          rw [List.getElem?_map, List.getElem?_eq_getElem hj']
          rfl
        refine ⟨rfl, ⟨_, rfl, _, rfl, .inr (.inl ⟨a, _, _, _, rfl, rfl, SqT.of (s3 _ _ ha2), atI_nat gx, ?_⟩)⟩⟩
        refine ⟨_, rfl, _, rfl, .inr (.inl ⟨b, _, _, _, rfl, rfl, SqT.of (s3 _ _ hb2), atI_nat gx, ?_⟩)⟩
        exact ⟨_, rfl, fun H4 s4 => ⟨true, rfl, hF rfl H4 s4⟩⟩
      · intro H3 s3 e3
        have e0 : ((List.range' 0 ns.length).filter fun _ => false).map vn = [] := by
          rw [List.filter_eq_nil_iff.mpr (fun _ _ => Bool.false_ne_true)]
          rfl
        rw [e0] at e3
        refine ⟨sz (by simp), fun e ne => ?_⟩
        have s4 : Same H3 (upd H3 e (.lst [])) := same_upd ne
        exact ⟨.list [], .list [], .lst (SqL.of (s4 _ _ e3)) .nil, .lst (SqL.of upd_same) .nil, rfl, rfl, q _ ((s12.trans s3).trans s4)⟩
theorem ok_come (c__law_sides : Cal P w K mg base 1 "_law_sides" ["_law_shut"] spSides) (F : Fun K "_law_come" "_law_come" s__law_come f fd) (T : Txt mg) : FnOk P w K mg base CX0 2 f fd ["_law_yard_here", "_law_lot"] spReached := by
  refine F.ok sc__law_come (fun vs H Q E h => ?_) (fun cdv A outer s H vs Q E hr h => ?_)
  · obtain ⟨v, y, a, L, rfl, _⟩ := h
    rfl
  · obtain ⟨v, y, al, L, rfl, ⟨ok, a, b, ps, rfl, ha, hb, hp⟩, hal, hL, q⟩ := h
    have bnd : Bnd (Ed y) L y.many := Ed.lt ok hL
    have ok1 := ok.lo
    have ok2 := ok.hi
    refine ⟨_, (pss_cons (ps_set (i := 2) sc__law_come.nd rfl (Or.inl rfl) (pe_lst (pa_cons pe_int pa_nil)))
      (pss_cons (ps_for PassesOwn.never rfl (pi_range1 (by rfl) T.range (pa_cons (pe_ix (ixTK K) (pv 0) pe_int (fun _ _ => rfl)) pa_nil)) (pg_name (i := 3) sc__law_come.nd rfl (Or.inl rfl))
      (pss_one (ps_for PassesOwn.never rfl (pi_tupK K (pv 1)) (pg_name (i := 4) sc__law_come.nd rfl (Or.inl rfl))
        (pss_cons (ps_set (i := 5) sc__law_come.nd rfl (Or.inl rfl) (pe_ix (ixTK K) (pe_ix (ixTK K) (pv 0) pe_int (fun _ _ => rfl)) (pv 4) (fun _ _ => rfl)))
          (pss_one (ps_for PassesOwn.never rfl (pi_tupK K (pf c__law_sides hr (by decide) (by rfl) (pa_cons (pv 5) pa_nil))) (pg_name (i := 6) sc__law_come.nd rfl (Or.inl rfl))
          (pss_cons (ps_set (i := 7) sc__law_come.nd rfl (Or.inl rfl) (pe_op op_sub (pe_op op_add (pe_ix (ixTK K) (pv 5) pe_int (fun _ _ => rfl)) (pe_ix (ixTK K) (pv 5) pe_int (fun _ _ => rfl))) (pv 6)))
            (pss_one (ps_if (PW.pt (pw_and (pt_cmpR (inK K) (pv 6) (pv 2) (by rfl)) (pw_and1 (pt_cmpR (notInK K) (pv 7) (pv 2) (by rfl)))))
            (pss_one (ps_expr (pe_bm PySem.F.plainAttrs_list PySem.F.slot_list_append PySem.F.type_list_append mt_append (pv 2) (pa_cons (pv 7) pa_nil))))
            pss_nil)))))))))
      (pss_one (ps_ret (pe_callB cr_sortedI (by rfl) T.sorted b_sorted (pa_cons (pv 2) pa_nil)))))), ?_⟩
    refine ⟨sz (by simp), fun l nl => ?_⟩
    have sl : Same H (upd H l (.lst [.int 0])) := same_upd nl
    refine ⟨_, rfl, a, _, 0, _, rfl, rfl, SqT.of (sl _ _ ha), rfl, _, rfl, by omega, by omega, ?_⟩
    rw [Int.toNat_natCast]
    refine for_range (lo := 0) (n := y.many) (fun i σ H' => ∃ ks s3 s4 s5 s6 s7, σ = [some (.ref a), some (.ref al), some (.ref l), s3, s4, s5, s6, s7] ∧ Same H H' ∧ H' l = some (.lst (tn ks)) ∧ Good (Ed y) y.many L ks ∧ (ClosedOn (Ed y) L ks ∨ i + 1 ≤ ks.length))
      ⟨[0], _, _, _, _, _, rfl, sl, upd_same, Good.zero ok.lo, .inr (Nat.le_refl 1)⟩ ?_ ?_
    · rintro t σ H' ht ⟨k0, s3, s4, s5, s6, s7, rfl, s1, hl, g, hc⟩
      refine ⟨_, rfl, al, rfl, ⟨_, SqT.of (s1 _ _ hal)⟩, for_tup (xs := tn L) (fun i σ H'' => ∃ ks s4 s5 s6 s7, σ = [some (.ref a), some (.ref al), some (.ref l), some (.int (0 + (t : Int))), s4, s5, s6, s7] ∧ Same H H'' ∧ H'' l = some (.lst (tn ks)) ∧ Pass2 (Ed y) y.many L k0 i ks)
        ⟨k0, _, _, _, _, rfl, s1, hl, Pass2.start g⟩ (fun i σ H'' _ ⟨_, _, _, _, _, _, s2, _⟩ => SqT.of (s2 _ _ hal)) ?_ ?_⟩
      · rintro i v σ H1 hi ⟨k1, s4, s5, s6, s7, rfl, s2, hl1, ps1⟩
        obtain ⟨x, hx, rfl⟩ := tn_get hi
        have hxL := List.mem_of_getElem? hx
        have hxm : x < y.m := hL x hxL
        obtain ⟨p, gp, tp⟩ := wall_get hp hxm
        have hw := ok.at hxm
        refine ⟨_, rfl, a, _, 1, _, rfl, rfl, SqT.of (s2 _ _ ha), rfl, _, rfl, b, _, (x : Int), .ref p, rfl, rfl, SqT.of (s2 _ _ hb), atI_n gp, ?_⟩
        refine ⟨_, rfl, p, y.w x, rfl, s2 _ _ tp, hw.2.2, fun H2 sd s3' nsd esd => ?_⟩
        have hl2 := s3' _ _ hl1
        refine ⟨sd, rfl, ⟨_, SqT.of esd⟩, for_tup (xs := tn (sidesOf (y.w x))) (fun j σ H3 => ∃ k3 s6 s7, σ = [some (.ref a), some (.ref al), some (.ref l), some (.int (0 + (t : Int))), some (vn x), some (.ref p), s6, s7] ∧ Same H H3 ∧ H3 sd = some (.tup (tn (sidesOf (y.w x)))) ∧
          H3 l = some (.lst (tn k3)) ∧ Good (Ed y) y.many L k3 ∧ ((k3 = k0 ∧ ClosedOn (Ed y) (L.take i) k0 ∧ ∀ z ∈ (sidesOf (y.w x)).take j, z ∈ k0 → (y.w x).1 + (y.w x).2.1 - z ∈ k0) ∨ (¬ ClosedOn (Ed y) L k0 ∧ k0.length < k3.length)))
          ⟨k1, _, _, rfl, s2.trans s3', esd, hl2, ps1.1, ?_⟩ (fun j σ H3 _ ⟨_, _, _, _, _, h, _⟩ => SqT.of h) ?_ ?_⟩
        · rcases ps1.2 with ⟨z1, z2⟩ | z
          · exact .inl ⟨z1, z2, fun z hz => (by simp at hz)⟩
          · exact .inr z
        · rintro j zv σ H3 hj ⟨k3, s6, s7, rfl, s4', esd3, hl3, g3, h3⟩
          obtain ⟨z, hz, rfl⟩ := tn_get hj
          have hzm : z ∈ sidesOf (y.w x) := List.mem_of_getElem? hz
          have hE : Ed y x z ((y.w x).1 + (y.w x).2.1 - z) := by
            refine ⟨?_, hzm⟩
            rcases sides_mem hzm with e | e
            · exact .inl ⟨e, by omega⟩
            · exact .inr ⟨e, by omega⟩
          have hcast : ((y.w x).1 : Int) + ((y.w x).2.1 : Int) - (z : Int) = (((y.w x).1 + (y.w x).2.1 - z : Nat) : Int) := by
            rcases sides_mem hzm with e | e <;> omega
          have tp3 := s4' _ _ tp
          refine ⟨_, rfl, p, _, 0, _, rfl, rfl, SqT.of tp3, rfl, _, rfl, p, _, 1, _, rfl, rfl, SqT.of tp3, rfl, _, _, rfl, rfl, _, rfl, _, _, rfl, rfl, ?_⟩
          dsimp only
          rw [hcast]
          have skip : (z ∈ k3 → (y.w x).1 + (y.w x).2.1 - z ∈ k3) → ((k3 = k0 ∧ ClosedOn (Ed y) (L.take i) k0 ∧ ∀ z ∈ (sidesOf (y.w x)).take (j + 1), z ∈ k0 → (y.w x).1 + (y.w x).2.1 - z ∈ k0) ∨ (¬ ClosedOn (Ed y) L k0 ∧ k0.length < k3.length)) := fun hh => by
            rcases h3 with ⟨e1, e2, e3⟩ | e
            · refine .inl ⟨e1, e2, fun c hc => ?_⟩
              rw [take_snoc hz] at hc
              rcases (List.mem_append (a := _)).mp hc with hc | hc
              · exact e3 c hc
              · rw [List.mem_singleton.mp hc]
                rw [e1] at hh
                exact hh
            · exact .inr e
          refine ⟨_, rfl, _, rfl, l, _, rfl, .inl (SqL.of hl3), rfl, flat_n k3, _, rfl, ite_in (fun m1 => ?_) (fun m1 => ?_)⟩
          · refine ⟨_, rfl, _, rfl, l, _, rfl, .inl (SqL.of hl3), rfl, flat_n k3, _, rfl, ite_notin (fun m2 => ?_) (fun m2 => ?_)⟩
            · have k3len := g3.len
              refine ⟨_, rfl, .inl ⟨rfl, _, SqL.of hl3⟩, _, rfl, l, _, _, rfl, rfl, hl3, small1000 (by rw [List.length_map]; omega), ?_⟩
              have nls : sd ≠ l := ne_of esd3 hl3 (by intro z; cases z)
              refine ⟨k3 ++ [(y.w x).1 + (y.w x).2.1 - z], _, _, rfl, Same.upd s4' nl, by rw [upd_ne nls]; exact esd3, by rw [upd_same, tn_snoc], g3.add bnd hxL hE m1 m2, .inr ?_⟩
              rw [List.length_append]
              rw [List.length_singleton]
              rcases h3 with ⟨e1, e2, e3⟩ | ⟨e1, e2⟩
              · rw [e1] at m1 m2 ⊢
                exact ⟨fun c => m2 (c x hxL _ _ hE m1), Nat.lt_succ_self _⟩
              · exact ⟨e1, by omega⟩
            · exact ⟨k3, _, _, rfl, s4', esd3, hl3, g3, skip fun _ => m2⟩
          · exact iteF ⟨k3, _, _, rfl, s4', esd3, hl3, g3, skip fun h => (m1 h).elim⟩
        · rintro σ H3 ⟨k3, s6, s7, rfl, s4', esd3, hl3, g3, h3⟩
          refine ⟨k3, _, _, _, _, rfl, s4', hl3, g3, ?_⟩
          rw [List.length_map, List.take_length] at h3
          rcases h3 with ⟨e1, e2, e3⟩ | e
          · refine .inl ⟨e1, closed_snoc hx e2 fun c d ed hc => ?_⟩
            have h4 := e3 c ed.2 hc
            have e5 : (y.w x).1 + (y.w x).2.1 - c = d := by
              rcases ed.1 with ⟨e6, e7⟩ | ⟨e6, e7⟩ <;> omega
            rw [e5] at h4
            exact h4
          · exact .inr e
      · rintro σ H1 ⟨k1, s4, s5, s6, s7, rfl, s2, hl1, ps1⟩
        rw [List.length_map] at ps1
        obtain ⟨g1, c1⟩ := ps1.done hc
        exact ⟨k1, _, _, _, _, _, rfl, s2, hl1, g1, c1⟩
    · rintro σ H' ⟨ks, s3, s4, s5, s6, s7, rfl, s1, hl, g, hc⟩
      have c := g.shut hc
      refine ⟨_, rfl, l, cz ks, rfl, SqL.of (by rw [tn_cz]; exact hl), fun ns' p pm st np => ?_⟩
      rw [sorted_rooms g c pm st]
      exact q _ p (s1.trans (same_upd np)) (s1.free np) upd_same
theorem ok_ways (F : Fun K "_law_ways" "_law_ways" s__law_ways f fd) (T : Txt mg) : FnOk P w K mg base CX0 1 f fd ["_law_yard_here", "_law_lot", "_law_room"] spWays := by
  refine F.ok sc__law_ways (fun vs H Q E h => ?_) (fun cdv A outer s H vs Q E hr h => ?_)
  · obtain ⟨v, y, a, L, rfl, _⟩ := h
    rfl
  · obtain ⟨v, y, al, L, rfl, ⟨ok, a, b, ps, rfl, ha, hb, hp⟩, hal, hL, q⟩ := h
    have bnd : Bnd (Eu y) L y.many := Eu.lt ok hL
    have ok1 := ok.lo
    have ok2 := ok.hi
    refine ⟨_, (pss_cons (ps_set (i := 3) sc__law_ways.nd rfl (Or.inl rfl) (pe_disp (pps_cons (pv 2) pe_int pps_nil) (by rfl) (by rfl) (fun z => by cases z) (by decide)))
      (pss_cons (ps_for PassesOwn.never rfl (pi_range1 (by rfl) T.range (pa_cons (pe_ix (ixTK K) (pv 0) pe_int (fun _ _ => rfl)) pa_nil)) (pg_name (i := 4) sc__law_ways.nd rfl (Or.inl rfl))
      (pss_one (ps_for PassesOwn.never rfl (pi_tupK K (pv 1)) (pg_name (i := 5) sc__law_ways.nd rfl (Or.inl rfl))
        (pss_cons (ps_asg (pe_ix (ixTK K) (pe_ix (ixTK K) (pv 0) pe_int (fun _ _ => rfl)) (pv 5) (fun _ _ => rfl)) (pg_tup rfl (pgs_cons (pg_name (i := 6) sc__law_ways.nd rfl (Or.inl rfl)) (pgs_cons (pg_name (i := 7) sc__law_ways.nd rfl (Or.inl rfl)) (pgs_cons (pg_name (i := 8) sc__law_ways.nd rfl (Or.inl rfl)) pgs_nil)))))
          (pss_one (ps_for PassesOwn.never rfl (pi_listK K (pe_lst (pa_cons (pe_tup (pa_cons (pv 6) (pa_cons (pv 7) pa_nil))) (pa_cons (pe_tup (pa_cons (pv 7) (pa_cons (pv 6) pa_nil))) pa_nil)))) (pg_tup rfl (pgs_cons (pg_name (i := 9) sc__law_ways.nd rfl (Or.inl rfl)) (pgs_cons (pg_name (i := 10) sc__law_ways.nd rfl (Or.inl rfl)) pgs_nil)))
          (pss_one (ps_if (PW.pt (pw_and (pt_cmp (pc_din (hu_of hr) (pv 9) (pv 3)) (by rfl)) (pw_and1 (pt_cmpR op_lt (pe_op op_add (pe_dget (hu_of hr) (pv 3) (pv 9) (fun _ _ => rfl)) pe_int) (pe_dget2 (hu_of hr) (pv 3) (pv 10) pe_int ⟨by rfl, by rfl, by rfl, by rfl⟩) (nomark _)))))
            (pss_one (ps_dput (hu_of hr) (pv 3) (pv 10) (pe_op op_add (pe_dget (hu_of hr) (pv 3) (pv 9) (fun _ _ => rfl)) pe_int) (by rfl)))
            pss_nil))))))))
      (pss_one (ps_ret (pv 3))))), ?_⟩
    intro d nd
    refine ⟨_, rfl, upd_same, [(.inl 0, .int 0)], rfl, by decide, ?_⟩
    have sA : Same H (upd (upd H d (.dK [])) d (.dK (mergeK [] [((.inl 0 : Key), V.int 0)]))) := Same.upd (same_upd nd) nd
    have eA : (upd (upd H d (.dK [])) d (.dK (mergeK [] [((.inl 0 : Key), V.int 0)]))) d = some (.dK [(.inl 0, .int 0)]) := upd_same
    generalize upd (upd H d (.dK [])) d (.dK (mergeK [] [((.inl 0 : Key), V.int 0)])) = HA at sA eA
    have dist0 : DistOk [((.inl 0 : Key), V.int 0)] [0] := ⟨rfl, fun k hk => by
      have e := List.mem_singleton.mp hk
      subst e
      exact ⟨0, rfl, Nat.zero_lt_one⟩⟩
    refine ⟨_, rfl, a, _, 0, _, rfl, rfl, SqT.of (sA _ _ ha), rfl, _, rfl, by omega, by omega, ?_⟩
    rw [Int.toNat_natCast]
    refine for_range (lo := 0) (n := y.many) (fun i σ H' => ∃ ks kvs s4 s5 s6 s7 s8 s9 s10, σ = [some (.ref a), some (.ref al), some (.int 0), some (.ref d), s4, s5, s6, s7, s8, s9, s10] ∧ Same H H' ∧ H' d = some (.dK kvs) ∧ DistOk kvs ks ∧ Good (Eu y) y.many L ks ∧ (ClosedOn (Eu y) L ks ∨ i + 1 ≤ ks.length))
      ⟨[0], _, _, _, _, _, _, _, _, rfl, sA, eA, dist0, Good.zero ok.lo, .inr (Nat.le_refl 1)⟩ ?_ ?_
    · rintro t σ H' ht ⟨k0, kvs0, s4, s5, s6, s7, s8, s9, s10, rfl, s1, hd, hdi, g, hc⟩
      refine ⟨_, rfl, al, rfl, ⟨_, SqT.of (s1 _ _ hal)⟩, for_tup (xs := tn L) (fun i σ H'' => ∃ ks kvs s5 s6 s7 s8 s9 s10, σ = [some (.ref a), some (.ref al), some (.int 0), some (.ref d), some (.int (0 + (t : Int))), s5, s6, s7, s8, s9, s10] ∧ Same H H'' ∧ H'' d = some (.dK kvs) ∧ DistOk kvs ks ∧ Pass2 (Eu y) y.many L k0 i ks)
        ⟨k0, kvs0, _, _, _, _, _, _, rfl, s1, hd, hdi, Pass2.start g⟩ (fun i σ H'' _ ⟨_, _, _, _, _, _, _, _, _, s2, _⟩ => SqT.of (s2 _ _ hal)) ?_ ?_⟩
      · rintro i v σ H1 hi ⟨k1, kvs1, s5, s6, s7, s8, s9, s10, rfl, s2, hd1, hdi1, ps1⟩
        obtain ⟨x, hx, rfl⟩ := tn_get hi
        have hxL := List.mem_of_getElem? hx
        have hxm : x < y.m := hL x hxL
        obtain ⟨p, gp, tp⟩ := wall_get hp hxm
        refine ⟨_, rfl, a, _, 1, _, rfl, rfl, SqT.of (s2 _ _ ha), rfl, _, rfl, b, _, (x : Int), .ref p, rfl, rfl, SqT.of (s2 _ _ hb), atI_n gp, ?_⟩
        refine ⟨p, tw (y.w x), rfl, SqT.of (s2 _ _ tp), rfl, ?_⟩
        refine ⟨_, _, rfl, _, _, rfl, _, _, rfl, rfl, ?_⟩
        refine ⟨_, rfl, _, rfl, sz (by simp), fun p1 n1 => ?_⟩
        refine ⟨_, rfl, _, rfl, sz (by simp), fun p2 n2 => ?_⟩
        refine ⟨sz (by simp), fun pp np => ?_⟩
        have q1 : Same H1 (upd H1 p1 (.tup [vn (y.w x).1, vn (y.w x).2.1])) := same_upd n1
        have q2 : Same (upd H1 p1 (.tup [vn (y.w x).1, vn (y.w x).2.1])) (upd (upd H1 p1 (.tup [vn (y.w x).1, vn (y.w x).2.1])) p2 (.tup [vn (y.w x).2.1, vn (y.w x).1])) := same_upd n2
        have q3 : Same (upd (upd H1 p1 (.tup [vn (y.w x).1, vn (y.w x).2.1])) p2 (.tup [vn (y.w x).2.1, vn (y.w x).1])) (upd (upd (upd H1 p1 (.tup [vn (y.w x).1, vn (y.w x).2.1])) p2 (.tup [vn (y.w x).2.1, vn (y.w x).1])) pp (.lst [.ref p1, .ref p2])) := same_upd np
        have s3 := (q1.trans q2).trans q3
        have e1 := (q2.trans q3) _ _ (upd_same (H := H1) (a := p1) (o := .tup [vn (y.w x).1, vn (y.w x).2.1]))
        have e2 := q3 _ _ (upd_same (a := p2) (o := .tup [vn (y.w x).2.1, vn (y.w x).1]))
        have ep : (upd (upd (upd H1 p1 (.tup [vn (y.w x).1, vn (y.w x).2.1])) p2 (.tup [vn (y.w x).2.1, vn (y.w x).1])) pp (.lst [.ref p1, .ref p2])) pp = some (.lst [.ref p1, .ref p2]) := upd_same
        generalize upd (upd (upd H1 p1 (.tup [vn (y.w x).1, vn (y.w x).2.1])) p2 (.tup [vn (y.w x).2.1, vn (y.w x).1])) pp (.lst [.ref p1, .ref p2]) = H2 at s3 e1 e2 ep
        refine ⟨pp, rfl, ⟨_, SqL.of ep⟩, for_list (xs := [.ref p1, .ref p2]) (fun j σ H3 => ∃ k3 kvs3 s9 s10, σ = [some (.ref a), some (.ref al), some (.int 0), some (.ref d), some (.int (0 + (t : Int))), some (vn x), some (vn (y.w x).1), some (vn (y.w x).2.1), some (vn (y.w x).2.2), s9, s10] ∧ Same H H3 ∧
          H3 d = some (.dK kvs3) ∧ H3 pp = some (.lst [.ref p1, .ref p2]) ∧ H3 p1 = some (.tup [vn (y.w x).1, vn (y.w x).2.1]) ∧ H3 p2 = some (.tup [vn (y.w x).2.1, vn (y.w x).1]) ∧ DistOk kvs3 k3 ∧ Good (Eu y) y.many L k3 ∧
          ((k3 = k0 ∧ ClosedOn (Eu y) (L.take i) k0 ∧ ∀ z, z < j → (dir (y.w x) z).1 ∈ k0 → (dir (y.w x) z).2 ∈ k0) ∨ (¬ ClosedOn (Eu y) L k0 ∧ k0.length < k3.length)))
          ⟨k1, kvs1, _, _, rfl, s2.trans s3, s3 _ _ hd1, ep, e1, e2, hdi1, ps1.1, ?_⟩ (fun j σ H3 _ ⟨_, _, _, _, _, _, _, h, _⟩ => SqL.of h) ?_ ?_⟩
        · rcases ps1.2 with ⟨z1, z2⟩ | z
          · exact .inl ⟨z1, z2, fun z hz => absurd hz (Nat.not_lt_zero _)⟩
          · exact .inr z
        · rintro j v σ H3 hj ⟨k3, kvs3, s9, s10, rfl, s4, hd3, ep3, e13, e23, hdi3, g3, h3⟩
          obtain ⟨pj, rfl, tj, hj2⟩ : ∃ pj, v = .ref pj ∧ H3 pj = some (.tup [vn (dir (y.w x) j).1, vn (dir (y.w x) j).2]) ∧ j < 2 := by
            match j, hj with
            | 0, hj =>
              have e := Option.some.inj hj
              exact ⟨p1, e.symm, e13, by decide⟩
            | 1, hj =>
              have e := Option.some.inj hj
              exact ⟨p2, e.symm, e23, by decide⟩
            | j + 2, hj => simp at hj
          generalize hdr : dir (y.w x) j = dd at tj
          obtain ⟨one, other⟩ := dd
          have hE : Eu y x one other := by
            have : j = 0 ∨ j = 1 := by omega
            rcases this with rfl | rfl
            · have e : ((y.w x).1, (y.w x).2.1) = (one, other) := hdr
              cases e
              exact .inl ⟨rfl, rfl⟩
            · have e : ((y.w x).2.1, (y.w x).1) = (one, other) := hdr
              cases e
              exact .inr ⟨rfl, rfl⟩
          refine ⟨pj, _, rfl, SqT.of tj, rfl, _, _, rfl, _, _, rfl, rfl, ?_⟩
          have skip : (one ∈ k3 → other ∈ k3) → ((k3 = k0 ∧ ClosedOn (Eu y) (L.take i) k0 ∧ ∀ z, z < j + 1 → (dir (y.w x) z).1 ∈ k0 → (dir (y.w x) z).2 ∈ k0) ∨ (¬ ClosedOn (Eu y) L k0 ∧ k0.length < k3.length)) := fun hh => by
            rcases h3 with ⟨z2, z3, z4⟩ | z
            · refine .inl ⟨z2, z3, fun z hz => ?_⟩
              by_cases e : z = j
              · subst e
                rw [hdr]
                rw [z2] at hh
                exact hh
              · exact z4 z (by omega)
            · exact .inr z
          have k3len := g3.len
          have hkl : kvs3.length = k3.length := by
            have := congrArg List.length hdi3.1
            rw [List.length_map, List.length_map] at this
            exact this
          have sz3 : kvs3.length < sizeLine := small1000 (by omega)
          refine ⟨_, rfl, _, rfl, d, _, rfl, DGet.k (k := kn one) hd3, _, rfl, ?_⟩
          by_cases m1 : one ∈ k3
          · obtain ⟨d1, hv1, hl1⟩ := hdi3.2 one m1
            have hget : DGet H3 d (kV (kn one)) (some (vn d1)) := by
              have h := DGet.k (k := kn one) hd3
              rw [hv1] at h
              exact h
            rw [hv1]
            refine iteT ?_
            refine ⟨_, rfl, _, rfl, d, _, rfl, hget, _, _, rfl, rfl, _, rfl, d, rfl, .inl ⟨kvs3, .inl hd3⟩, _, rfl, _, DGet.k (k := kn other) hd3, ?_⟩
            by_cases m2 : other ∈ k3
            · obtain ⟨d2, hv2, hl2⟩ := hdi3.2 other m2
              rw [hv2]
              refine ⟨_, _, rfl, rfl, _, rfl, ?_⟩
              by_cases hlt : (d1 : Int) + 1 < (d2 : Int)
              · rw [decide_eq_true hlt]
                refine iteT ⟨_, rfl, _, rfl, d, _, rfl, hget, _, _, rfl, rfl, _, rfl, _, rfl, d, _, rfl, DPut.k (k := kn other) hd3 sz3, ?_⟩
                have ndp : pp ≠ d := ne_of ep3 hd3 (by intro z; cases z)
                have nd1 : p1 ≠ d := ne_of e13 hd3 (by intro z; cases z)
                have nd2 : p2 ≠ d := ne_of e23 hd3 (by intro z; cases z)
                have hag : DistOk (putK kvs3 (kn other) (vn (d1 + 1))) k3 := hdi3.again m2 (by omega)
                exact ⟨k3, _, _, _, rfl, Same.upd s4 nd, upd_same, by rw [upd_ne ndp]; exact ep3, by rw [upd_ne nd1]; exact e13, by rw [upd_ne nd2]; exact e23, hag, g3, skip fun _ => m2⟩
              · rw [decide_eq_false hlt]
                exact iteF ⟨k3, kvs3, _, _, rfl, s4, hd3, ep3, e13, e23, hdi3, g3, skip fun _ => m2⟩
            · rw [has_key hdi3.1 m2]
              refine ⟨_, _, rfl, rfl, _, rfl, ?_⟩
              have hlt : (d1 : Int) + 1 < 99 := by omega
              rw [decide_eq_true hlt]
              refine iteT ⟨_, rfl, _, rfl, d, _, rfl, hget, _, _, rfl, rfl, _, rfl, _, rfl, d, _, rfl, DPut.k (k := kn other) hd3 sz3, ?_⟩
              have ndp : pp ≠ d := ne_of ep3 hd3 (by intro z; cases z)
              have nd1 : p1 ≠ d := ne_of e13 hd3 (by intro z; cases z)
              have nd2 : p2 ≠ d := ne_of e23 hd3 (by intro z; cases z)
              have hag : DistOk (putK kvs3 (kn other) (vn (d1 + 1))) (k3 ++ [other]) := hdi3.more m2 (by omega)
              refine ⟨k3 ++ [other], _, _, _, rfl, Same.upd s4 nd, upd_same, by rw [upd_ne ndp]; exact ep3, by rw [upd_ne nd1]; exact e13, by rw [upd_ne nd2]; exact e23, hag, g3.add bnd hxL hE m1 m2, .inr ?_⟩
              rw [List.length_append]
              rw [List.length_singleton]
              rcases h3 with ⟨z1, z2, z3⟩ | ⟨z1, z2⟩
              · rw [z1] at m1 m2 ⊢
                exact ⟨fun c => m2 (c x hxL _ _ hE m1), Nat.lt_succ_self _⟩
              · exact ⟨z1, by omega⟩
          · rw [has_key hdi3.1 m1]
            exact iteF (iteF ⟨k3, kvs3, _, _, rfl, s4, hd3, ep3, e13, e23, hdi3, g3, skip fun z => (m1 z).elim⟩)
        · rintro σ H3 ⟨k3, kvs3, s9, s10, rfl, s4, hd3, _, _, _, hdi3, g3, h3⟩
          refine ⟨k3, kvs3, _, _, _, _, _, _, rfl, s4, hd3, hdi3, g3, ?_⟩
          rcases h3 with ⟨z2, z3, z4⟩ | z
          · refine .inl ⟨z2, closed_snoc hx z3 fun c e ed hc => ?_⟩
            rcases ed with ⟨rfl, rfl⟩ | ⟨rfl, rfl⟩
            · exact z4 0 (by show 0 < 2; decide) hc
            · exact z4 1 (by show 1 < 2; decide) hc
          · exact .inr z
      · rintro σ H1 ⟨k1, kvs1, s5, s6, s7, s8, s9, s10, rfl, s2, hd1, hdi1, ps1⟩
        rw [List.length_map] at ps1
        obtain ⟨g1, c1⟩ := ps1.done hc
        exact ⟨k1, kvs1, _, _, _, _, _, _, _, rfl, s2, hd1, hdi1, g1, c1⟩
    · rintro σ H' ⟨ks, kvs, s4, s5, s6, s7, s8, s9, s10, rfl, s1, hd, hdi, g, hc⟩
      have c := g.shut hc
      refine ⟨_, rfl, q H' d kvs s1 nd hd ?_⟩
      have h1 := congrArg List.length hdi.1
      rw [List.length_map, List.length_map] at h1
      rw [h1]
      exact rooms_len g c
end
end Wk
/-! The law's own defs: the yard, the words, the shuffled order. -/
namespace Wk
open PySem L2
/-- (x,) + t, t a tuple of numbers -/
def rConsN : R2 := fun x y H Q => ∃ (a b : Addr) (z : Nat) (L : List Nat), x = .ref a ∧ y = .ref b ∧ H a = some (.tup [vn z]) ∧ H b = some (.tup (tn L)) ∧ L.length ≤ 100 ∧ ∀ H' p, Same H H' → H' p = some (.tup (tn (z :: L))) → Q (.ref p) H'
theorem rConsN_to {K : PySem.W.Frag} {x y : V} {H : Hp} {Q : VK} (h : rConsN x y H Q) : rCatT K x y H Q := by
  obtain ⟨a, b, z, L, rfl, rfl, ha, hb, hl, q⟩ := h
  refine ⟨a, b, [vn z], tn L, rfl, rfl, SqT.of ha, SqT.of hb, by simp, ?_, fun e => ?_, fun _ p np => ?_⟩
  · rw [List.length_map]
    exact sz (by simp; omega)
  · have e0 : L = [] := List.map_eq_nil_iff.mp e
    subst e0
    exact q H a (Same.refl _) ha
  · exact q _ p (same_upd np) upd_same
theorem op_consN {X : Cx} : OpR X (binaryOp .Add) rConsN := fun pins s σ H x y v u Q I rx ry h => op_catT pins s σ H x y v u Q I rx ry (rConsN_to h)
theorem tu_upd {H : Hp} {v : V} {ns : List Nat} {l : Addr} {xs : List V} {o : HO} (h : Tu H v ns) (hl : H l = some (.lst xs)) : Tu (upd H l o) v ns := by
  obtain ⟨a, e, h⟩ := h
  refine ⟨a, e, ?_⟩
  rw [upd_ne (ne_of h hl (by intro z; cases z))]
  exact h
theorem eqv_nil_lst (L : List Nat) : PyData.eqv (.list (pdn L)) (.list []) = decide (L = []) := by
  cases L with
  | nil => rfl
  | cons x r =>
    rw [decide_eq_false (by simp)]
    rfl
theorem erase_tn : ∀ (A : List Nat) (j : Nat), (tn A).eraseIdx j = tn (A.eraseIdx j)
  | [], _ => rfl
  | a :: r, 0 => rfl
  | a :: r, j + 1 => by
    show vn a :: (tn r).eraseIdx j = vn a :: tn (r.eraseIdx j)
    rw [erase_tn r j]
theorem erase_perm : ∀ (A : List Nat) (j x : Nat), A[j]? = some x → (x :: A.eraseIdx j).Perm A
  | [], _, _, h => by simp at h
  | a :: r, 0, x, h => by
    have e := Option.some.inj h
    subst e
    exact List.Perm.refl _
  | a :: r, j + 1, x, h => by
    have ih := erase_perm r j x h
    show (x :: a :: r.eraseIdx j).Perm (a :: r)
    exact (List.Perm.swap a x _).trans (List.Perm.cons a ih)
def WallOk (many : Nat) (w : Wall) : Prop := w.1 < w.2.1 ∧ w.2.1 < many ∧ w.2.2 ≤ 2
abbrev WallsAt (H : Hp) (ps : List Addr) (ws : List Wall) : Prop := Paired (fun p w => H p = some (.tup (tw w))) ps ws
def spYard (K : PySem.W.Frag) : Sp := fun vs H Q _ => ∃ r : Addr, vs = [.ref r, .int 5, .int 6, .int 1] ∧ RowOk K H r ∧ ∀ H' v y, Draw K H H' r → Yd H' v y → Q v H'
def spWords : Sp := fun vs H Q _ => ∃ (v : V) (y : Yard), vs = [v] ∧ Yd H v y ∧ ∀ (H' : Hp) (q : Addr) (xs : List V) (ws : List (List Nat)), Same H H' → H q = none → H' q = some (.lst xs) → Paired (Tu H') xs ws → Words y ws → ws.length ≤ 46656 → Q (.ref q) H'
def spShuffled (K : PySem.W.Frag) : Sp := fun vs H Q _ => ∃ (r : Addr) (m : Nat), vs = [.ref r, vn m] ∧ m ≤ 6 ∧ RowOk K H r ∧ ∀ H' v L, Draw K H H' r → Tu H' v L → L.Perm (List.range m) → Q v H'
section
variable {P : Program} {w : World} {K : PySem.W.Frag} {mg : Str → Option Value} {base : Heap} {f : Addr} {fd : FuncData}
theorem ok_yard (c__law_taken : Cal P w K mg base 1 "_law_taken" ["_law_row", "_law_many"] (spTaken K)) (F : Fun K "_law_yard" "_law_yard" s__law_yard f fd) (T : Txt mg) :
    FnOk P w K mg base CX0 2 f fd ["_law_row", "_law_rooms", "_law_shuts", "_law_either"] (spYard K) := by
  refine F.ok sc__law_yard (fun vs H Q E h => ?_) (fun cdv A outer s H vs Q E hr h => ?_)
  · obtain ⟨r, rfl, _⟩ := h
    rfl
  · obtain ⟨r, rfl, hrow, q⟩ := h
    refine ⟨_, (pss_cons (ps_set (i := 4) sc__law_yard.nd rfl (Or.inl rfl) (pe_op op_add pe_int (pf c__law_taken hr (by decide) (by rfl) (pa_cons (pv 0) (pa_cons (pv 1) pa_nil)))))
      (pss_cons (ps_if (pt_cmpR op_eq (pv 4) pe_int (nomark _))
      (pss_one (ps_ret (pe_tup (pa_cons pe_int (pa_cons (pe_tup pa_nil) pa_nil)))))
      pss_nil)
      (pss_cons (ps_set (i := 5) sc__law_yard.nd rfl (Or.inl rfl) (pe_lst pa_nil))
      (pss_cons (ps_for PassesOwn.never rfl (pi_range2 (by rfl) T.range (pa_cons pe_int (pa_cons (pv 4) pa_nil))) (pg_name (i := 6) sc__law_yard.nd rfl (Or.inl rfl))
      (pss_one (ps_if (PW.pt (pw_and (pt_cmpR op_lt (pe_callB (lenK K) (by rfl) T.len b_len (pa_cons (pv 5) pa_nil)) (pv 2) (nomark _)) (pw_and1 (pt_cmpR op_gt (pf c__law_taken hr (by decide) (by rfl) (pa_cons (pv 0) (pa_cons pe_int pa_nil))) pe_int (nomark _)))))
        (pss_cons (ps_set (i := 7) sc__law_yard.nd rfl (Or.inl rfl) (pf c__law_taken hr (by decide) (by rfl) (pa_cons (pv 0) (pa_cons (pv 6) pa_nil))))
          (pss_one (ps_expr (pe_bm PySem.F.plainAttrs_list PySem.F.slot_list_append PySem.F.type_list_append mt_append (pv 5) (pa_cons (pe_tup (pa_cons (pv 7) (pa_cons (pv 6) (pa_cons (pe_ifExp (pt_cmpR op_gt (pf c__law_taken hr (by decide) (by rfl) (pa_cons (pv 0) (pa_cons pe_int pa_nil))) pe_int (nomark _)) pe_int (pf c__law_taken hr (by decide) (by rfl) (pa_cons (pv 0) (pa_cons (pe_op op_add pe_int (pv 3)) pa_nil)))) pa_nil)))) pa_nil)))))
        pss_nil)))
      (pss_cons (ps_for PassesOwn.never rfl (pi_range1 (by rfl) T.range (pa_cons (pf c__law_taken hr (by decide) (by rfl) (pa_cons (pv 0) (pa_cons (pe_op op_add (pe_op op_sub (pv 2) (pe_callB (lenK K) (by rfl) T.len b_len (pa_cons (pv 5) pa_nil))) pe_int) pa_nil))) pa_nil)) (pg_name (i := 8) sc__law_yard.nd rfl (Or.inl rfl))
      (pss_cons (ps_set (i := 7) sc__law_yard.nd rfl (Or.inl rfl) (pf c__law_taken hr (by decide) (by rfl) (pa_cons (pv 0) (pa_cons (pe_op op_sub (pv 4) pe_int) pa_nil))))
        (pss_cons (ps_set (i := 9) sc__law_yard.nd rfl (Or.inl rfl) (pe_op op_add (pe_op op_add (pv 7) pe_int) (pf c__law_taken hr (by decide) (by rfl) (pa_cons (pv 0) (pa_cons (pe_op op_sub (pe_op op_sub (pv 4) pe_int) (pv 7)) pa_nil)))))
        (pss_one (ps_expr (pe_bm PySem.F.plainAttrs_list PySem.F.slot_list_append PySem.F.type_list_append mt_append (pv 5) (pa_cons (pe_tup (pa_cons (pv 7) (pa_cons (pv 9) (pa_cons (pf c__law_taken hr (by decide) (by rfl) (pa_cons (pv 0) (pa_cons (pe_op op_add pe_int (pv 3)) pa_nil))) pa_nil)))) pa_nil)))))))
      (pss_one (ps_ret (pe_tup (pa_cons (pv 4) (pa_cons (pe_callTy call_tuple_of (by rfl) T.tuple b_tuple (pa_cons (pv 5) pa_nil)) pa_nil)))))))))), ?_⟩
    refine ⟨_, rfl, _, rfl, r, 5, rfl, by decide, by decide, hrow, fun H1 k1 d1 hk1 => ?_⟩
    refine ⟨_, _, rfl, rfl, ?_⟩
    refine ⟨_, rfl, rfl, _, rfl, ite2 (fun e => ?_) (fun e => ?_)⟩
    · have e1 : (1 : Int) + (k1 : Int) = 1 := V.int.inj (of_decide_eq_true e)
      refine ⟨sz (by simp), fun p np => ⟨sz (by simp), fun t nt => ?_⟩⟩
      have s1 : Same H1 (upd H1 p (.tup [])) := same_upd np
      have s2 : Same (upd H1 p (.tup [])) (upd (upd H1 p (.tup [])) t (.tup [.int 1, .ref p])) := same_upd nt
      exact q _ _ ⟨1, []⟩ (d1.same (s1.trans s2)) ⟨⟨Nat.le_refl 1, by show 1 ≤ 5; decide, Nat.zero_le _, fun w hw => (by cases hw)⟩, t, p, [], rfl, upd_same, s2 _ _ upd_same, .nil⟩
    · have hk0 : 1 ≤ k1 := by
        by_cases h : 1 ≤ k1
        · exact h
        · exfalso
          have : k1 = 0 := by omega
          subst this
          exact e (by decide)
      obtain ⟨many, hmany⟩ : ∃ many : Nat, many = 1 + k1 := ⟨_, rfl⟩
      have hm2 : 2 ≤ many := by omega
      have hm5 : many ≤ 5 := by omega
      have emany : (fun i j : Int => V.int (i + j)) 1 (k1 : Int) = vn many := by
        rw [hmany]
        rfl
      rw [emany]
      have row1 := d1.row hrow
      refine ⟨sz (by simp), fun l nl => ?_⟩
      have hl0 : (del H r) l = none := Same.free d1.1 nl
      have nlr : l ≠ r := by
        obtain ⟨_, _, _, _, _, h1, _⟩ := row1
        exact (ne_of_none h1 nl).symm
      have d2 := d1.same (same_upd (o := HO.lst []) nl)
      -- a wall is appended
      have add : ∀ (H6 : Hp) (ps : List Addr) (ws : List Wall) (w : Wall) (p : Addr), Draw K H H6 r → H6 l = some (.lst (ps.map V.ref)) → WallsAt H6 ps ws → (∀ w ∈ ws, WallOk many w) → ws.length ≤ 5 → H6 p = none → WallOk many w →
          (upd H6 p (.tup (tw w))) l = some (.lst (ps.map V.ref)) ∧ (ps.map V.ref).length < sizeLine ∧ Draw K H (upd (upd H6 p (.tup (tw w))) l (.lst (ps.map V.ref ++ [.ref p]))) r ∧
            (upd (upd H6 p (.tup (tw w))) l (.lst (ps.map V.ref ++ [.ref p]))) l = some (.lst ((ps ++ [p]).map V.ref)) ∧ WallsAt (upd (upd H6 p (.tup (tw w))) l (.lst (ps.map V.ref ++ [.ref p]))) (ps ++ [p]) (ws ++ [w]) ∧
            (∀ z ∈ ws ++ [w], WallOk many z) ∧ (ws ++ [w]).length = ws.length + 1 := fun H6 ps ws w p d6 hl6 hw6 hok hn np hw => by
        have s7 : Same H6 (upd H6 p (.tup (tw w))) := same_upd np
        have hl7 := s7 _ _ hl6
        have tp7 : (upd H6 p (.tup (tw w))) p = some (.tup (tw w)) := upd_same
        have d7 := d6.same s7
        generalize upd H6 p (.tup (tw w)) = H7 at s7 hl7 tp7 d7
        have lps : ps.length = ws.length := paired_len hw6
        refine ⟨hl7, small1000 (by rw [List.length_map]; omega), d7.put hl0 nlr, by rw [upd_same, List.map_append]; rfl, ?_, fun z hz => ?_, by rw [List.length_append, List.length_singleton]⟩
        · refine paired_snoc ?_ (paired_mono (fun c w t => ?_) hw6)
          · rw [upd_ne (ne_of tp7 hl7 (by intro z; cases z))]
            exact tp7
          · rw [upd_ne (ne_of (s7 _ _ t) hl7 (by intro z; cases z))]
            exact s7 _ _ t
        · rcases List.mem_append.mp hz with hz | hz
          · exact hok z hz
          · have ez := List.mem_singleton.mp hz
            rw [ez]
            exact hw
      -- for room in range(1, many)
      refine ⟨_, rfl, _, _, rfl, ⟨by omega, by omega, by omega, by omega⟩, ?_⟩
      rw [show ((many : Int) - 1).toNat = many - 1 by omega]
      refine for_range (lo := 1) (n := many - 1) (fun i σ H' => ∃ ps ws s6 s7 s8 s9, σ = [some (.ref r), some (.int 5), some (.int 6), some (.int 1), some (vn many), some (.ref l), s6, s7, s8, s9] ∧ Draw K H H' r ∧ H' l = some (.lst (ps.map V.ref)) ∧ WallsAt H' ps ws ∧ (∀ w ∈ ws, WallOk many w) ∧ ws.length ≤ 6)
        ⟨[], [], _, _, _, _, rfl, d2, upd_same, .nil, fun w hw => (by cases hw), Nat.zero_le _⟩ ?_ ?_
      · rintro i σ H3 hi ⟨ps, ws, s6, s7, s8, s9, rfl, d3, hl3, hw3, hok3, hn3⟩
        have lps : ps.length = ws.length := paired_len hw3
        have row3 := d3.row hrow
        refine ⟨_, rfl, l, _, rfl, .inl (SqL.of hl3), _, rfl, _, _, rfl, rfl, _, rfl, ite2 (fun e1 => ?_) (fun e1 => ?_)⟩
        · have e1 : ((ps.map V.ref).length : Int) < 6 := of_decide_eq_true e1
          rw [List.length_map] at e1
          refine ⟨_, rfl, r, 8, rfl, by decide, by decide, row3, fun H4 k4 d4 hk4 => ?_⟩
          refine ⟨_, _, rfl, rfl, _, rfl, ite2 (fun e2 => ?_) (fun e2 => ?_)⟩
          · have row4 := d4.row row3
            refine ⟨_, rfl, _, rfl, r, 1 + i, rfl, by omega, by omega, row4, fun H5 k5 d5 hk5 => ?_⟩
            have d45 := d4.trans d5
            have row5 := d5.row row4
            have hl5 : H5 l = some (.lst (ps.map V.ref)) := d45.at nlr hl3
            have hw5 : WallsAt H5 ps ws := paired_mono (fun p w t => d45.tup row3 t) hw3
            refine ⟨_, rfl, .inl ⟨rfl, _, SqL.of hl5⟩, _, rfl, _, rfl, _, rfl, r, 4, rfl, by decide, by decide, row5, fun H6 k6 d6 hk6 => ?_⟩
            have row6 := d6.row row5
            refine ⟨_, _, rfl, rfl, _, rfl, ite2 (fun e3 => ?_) (fun e3 => ?_)⟩
            · refine ⟨sz (by simp), fun p np => ?_⟩
              obtain ⟨a1, a2, a3, a4, a5, a6, a7⟩ := add H6 ps ws (k5, 1 + i, 0) p ((d3.trans d45).trans d6) (d6.at nlr hl5) (paired_mono (fun p w t => d6.tup row5 t) hw5) hok3 (by omega) np ⟨hk5, by show 1 + i < many; omega, Nat.zero_le _⟩
              exact ⟨l, _, _, rfl, rfl, a1, a2, ps ++ [p], _, _, _, _, _, rfl, a3, a4, a5, a6, by omega⟩
            · refine ⟨_, rfl, _, rfl, _, _, rfl, rfl, r, 3, rfl, by decide, by decide, row6, fun H7 k7 d7 hk7 => ?_⟩
              have d67 := d6.trans d7
              refine ⟨sz (by simp), fun p np => ?_⟩
              obtain ⟨a1, a2, a3, a4, a5, a6, a7⟩ := add H7 ps ws (k5, 1 + i, k7) p ((d3.trans d45).trans d67) (d67.at nlr hl5) (paired_mono (fun p w t => d67.tup row5 t) hw5) hok3 (by omega) np ⟨hk5, by show 1 + i < many; omega, by show k7 ≤ 2; omega⟩
              exact ⟨l, _, _, rfl, rfl, a1, a2, ps ++ [p], _, _, _, _, _, rfl, a3, a4, a5, a6, by omega⟩
          · exact ⟨ps, ws, _, _, _, _, rfl, d3.trans d4, d4.at nlr hl3, paired_mono (fun p w t => d4.tup row3 t) hw3, hok3, hn3⟩
        · exact iteF ⟨ps, ws, _, _, _, _, rfl, d3, hl3, hw3, hok3, hn3⟩
      · rintro σ H3 ⟨ps0, ws0, s6, s7, s8, s9, rfl, d3, hl3, hw3, hok3, hn3⟩
        have lps : ps0.length = ws0.length := paired_len hw3
        have row3 := d3.row hrow
        -- for turn in range(..)
        refine ⟨_, rfl, _, rfl, _, rfl, l, _, rfl, .inl (SqL.of hl3), _, _, rfl, rfl, _, _, rfl, rfl, ?_⟩
        refine ⟨r, 7 - ws0.length, congrArg (fun z : Int => [V.ref r, V.int z]) (show (6 : Int) - ((ps0.map V.ref).length : Int) + 1 = ((7 - ws0.length : Nat) : Int) by rw [List.length_map]; omega), by omega, by omega, row3, fun H4 k4 d4 hk4 => ?_⟩
        refine ⟨_, rfl, by omega, by omega, ?_⟩
        rw [Int.toNat_natCast]
        refine for_range (lo := 0) (n := k4) (fun i σ H' => ∃ ps ws s6 s7 s8 s9, σ = [some (.ref r), some (.int 5), some (.int 6), some (.int 1), some (vn many), some (.ref l), s6, s7, s8, s9] ∧ Draw K H H' r ∧ H' l = some (.lst (ps.map V.ref)) ∧ WallsAt H' ps ws ∧ (∀ w ∈ ws, WallOk many w) ∧ ws.length ≤ ws0.length + i)
          ⟨ps0, ws0, _, _, _, _, rfl, d3.trans d4, d4.at nlr hl3, paired_mono (fun p w t => d4.tup row3 t) hw3, hok3, Nat.le_refl _⟩ ?_ ?_
        · rintro i σ H5 hi ⟨ps, ws, s6, s7, s8, s9, rfl, d5, hl5, hw5, hok5, hn5⟩
          have row5 := d5.row hrow
          refine ⟨_, rfl, _, rfl, _, _, rfl, rfl, r, many - 1, congrArg (fun z : Int => [V.ref r, V.int z]) (show (many : Int) - 1 = ((many - 1 : Nat) : Int) by omega), by omega, by omega, row5, fun H6 lo d6 hlo => ?_⟩
          have row6 := d6.row row5
          refine ⟨_, rfl, _, _, rfl, rfl, _, rfl, _, rfl, _, _, rfl, rfl, _, rfl, _, _, rfl, rfl, ?_⟩
          refine ⟨r, many - 1 - lo, congrArg (fun z : Int => [V.ref r, V.int z]) (show (many : Int) - 1 - (lo : Int) = ((many - 1 - lo : Nat) : Int) by omega), by omega, by omega, row6, fun H7 k7 d7 hk7 => ?_⟩
          have row7 := d7.row row6
          refine ⟨_, _, rfl, rfl, ?_⟩
          have d67 := d6.trans d7
          refine ⟨_, rfl, .inl ⟨rfl, _, SqL.of (d67.at nlr hl5)⟩, _, rfl, _, rfl, _, rfl, _, rfl, _, _, rfl, rfl, r, 3, rfl, by decide, by decide, row7, fun H8 k8 d8 hk8 => ?_⟩
          have d68 := d67.trans d8
          refine ⟨sz (by simp), fun p np => ?_⟩
          obtain ⟨a1, a2, a3, a4, a5, a6, a7⟩ := add H8 ps ws (lo, lo + 1 + k7, k8) p (d5.trans d68) (d68.at nlr hl5) (paired_mono (fun p w t => d68.tup row5 t) hw5) hok5 (by omega) np ⟨by show lo < lo + 1 + k7; omega, by show lo + 1 + k7 < many; omega, by show k8 ≤ 2; omega⟩
          exact ⟨l, _, _, rfl, rfl, a1, a2, ps ++ [p], _, _, _, _, _, rfl, a3, a4, a5, a6, by omega⟩
        · rintro σ H5 ⟨ps, ws, s6, s7, s8, s9, rfl, d5, hl5, hw5, hok5, hn5⟩
          refine ⟨_, rfl, _, rfl, l, _, rfl, .inl ⟨SqL.of hl5, fun t nt => ⟨sz (by simp), fun p np => ?_⟩⟩⟩
          have s1 : Same H5 (upd H5 t (.tup (ps.map V.ref))) := same_upd nt
          have s2 : Same (upd H5 t (.tup (ps.map V.ref))) (upd (upd H5 t (.tup (ps.map V.ref))) p (.tup [vn many, .ref t])) := same_upd np
          exact q _ _ ⟨many, ws⟩ (d5.same (s1.trans s2)) ⟨⟨by show 1 ≤ many; omega, hm5, by show ws.length ≤ 6; omega, hok5⟩, p, t, ps, rfl, upd_same, s2 _ _ upd_same, paired_mono (fun c w h => (s1.trans s2) _ _ h) hw5⟩
theorem ok_shuffled (c__law_taken : Cal P w K mg base 1 "_law_taken" ["_law_row", "_law_many"] (spTaken K)) (F : Fun K "_law_shuffled" "_law_shuffled" s__law_shuffled f fd) (T : Txt mg) :
    FnOk P w K mg base CX0 2 f fd ["_law_row", "_law_many"] (spShuffled K) := by
  refine F.ok sc__law_shuffled (fun vs H Q E h => ?_) (fun cdv A outer s H vs Q E hr h => ?_)
  · obtain ⟨r, m, rfl, _⟩ := h
    rfl
  · obtain ⟨r, m, rfl, hm, hrow, q⟩ := h
    refine ⟨_, (pss_cons (ps_par (i := 2) (j := 3) (by rfl) sc__law_shuffled.nd rfl rfl (by decide) rfl rfl (pa_cons (pe_listRg rfl (by rfl) T.list (prg_1 (by rfl) T.range (pv 1))) (pa_cons (pe_lst pa_nil) pa_nil)) (by rfl))
      (pss_cons (ps_while PassesOwn.never (pt_cmpR (op_neD hr.units) (pv 2) (pe_lst pa_nil) (nomark _))
      (pss_one (ps_expr (pe_bm PySem.F.plainAttrs_list PySem.F.slot_list_append PySem.F.type_list_append mt_append (pv 3) (pa_cons (pe_bm PySem.F.plainAttrs_list PySem.F.slot_list_pop PySem.F.type_list_pop mt_popAt (pv 2) (pa_cons (pf c__law_taken hr (by decide) (by rfl) (pa_cons (pv 0) (pa_cons (pe_callB (lenK K) (by rfl) T.len b_len (pa_cons (pv 2) pa_nil)) pa_nil))) pa_nil)) pa_nil)))))
      (pss_one (ps_ret (pe_callTy call_tuple_of (by rfl) T.tuple b_tuple (pa_cons (pv 3) pa_nil)))))), ?_⟩
    refine ⟨_, rfl, _, rfl, RgOk.of_le (by omega) (by omega) (by omega) (by omega), fun ll nll => ?_⟩
    rw [rgV_n]
    refine ⟨sz (by simp), fun lf nlf => ⟨_, _, rfl, ?_⟩⟩
    have s1 : Same H (upd H ll (.lst (tn (List.range m)))) := same_upd nll
    have s2 : Same (upd H ll (.lst (tn (List.range m)))) (upd (upd H ll (.lst (tn (List.range m)))) lf (.lst [])) := same_upd nlf
    have e1 := s2 _ _ (upd_same (H := H) (a := ll) (o := .lst (tn (List.range m))))
    have nlf0 : H lf = none := s1.free nlf
    have nf : ll ≠ lf := ne_of_none upd_same nlf
    have nrl : ll ≠ r := by
      obtain ⟨_, _, _, _, _, h1, _⟩ := hrow
      exact (ne_of_none h1 nll).symm
    have nrf : lf ≠ r := by
      obtain ⟨_, _, _, _, _, h1, _⟩ := hrow
      exact (ne_of_none h1 nlf0).symm
    have dl : (del H r) ll = none := by rw [del_ne nrl]; exact nll
    have df : (del H r) lf = none := by rw [del_ne nrf]; exact nlf0
    refine ⟨fun k σ H' => ∃ A B, σ = [some (.ref r), some (vn m), some (.ref ll), some (.ref lf)] ∧ Draw K H H' r ∧ H' ll = some (.lst (tn A)) ∧ H' lf = some (.lst (tn B)) ∧ (B ++ A).Perm (List.range m) ∧ k = A.length,
      ⟨_, List.range m, [], rfl, (Draw.refl H r).same (s1.trans s2), e1, upd_same, List.Perm.refl _, rfl⟩, ?_⟩
    rintro k σ H' ⟨A, B, rfl, d, eA, eB, hp, ek⟩
    have hlen : B.length + A.length = m := by
      have := hp.length_eq
      rw [List.length_append, List.length_range] at this
      exact this
    refine ⟨_, rfl, sz (by simp), fun e ne => ?_⟩
    have s3 : Same H' (upd H' e (.lst [])) := same_upd ne
    have ee : (upd H' e (.lst [])) e = some (.lst []) := upd_same
    generalize upd H' e (.lst []) = H1 at s3 ee
    have eA1 := s3 _ _ eA
    have eB1 := s3 _ _ eB
    have d1 := d.same s3
    refine ⟨_, .list [], dp_lst eA1, .lst (SqL.of ee) .nil, shaped_lst _, rfl, _, rfl, ?_⟩
    rw [eqv_nil_lst]
    by_cases hnil : A = []
    · rw [decide_eq_true hnil]
      subst hnil
      rw [List.append_nil] at hp
      exact iteF ⟨_, rfl, lf, _, rfl, .inl ⟨SqL.of eB1, fun t nt => q _ _ B (d1.same (same_upd nt)) ⟨t, rfl, upd_same⟩ hp⟩⟩
    · rw [decide_eq_false hnil]
      have hA : 1 ≤ A.length := by
        cases A with
        | nil => exact (hnil rfl).elim
        | cons x t => rw [List.length_cons]; omega
      refine iteT ⟨fun σ' H'' => ∃ m', m' < k ∧ ∃ A B, σ' = [some (.ref r), some (vn m), some (.ref ll), some (.ref lf)] ∧ Draw K H H'' r ∧ H'' ll = some (.lst (tn A)) ∧ H'' lf = some (.lst (tn B)) ∧ (B ++ A).Perm (List.range m) ∧ m' = A.length, fun _ _ h => h, ?_⟩
      refine ⟨_, rfl, .inl ⟨rfl, _, SqL.of eB1⟩, _, rfl, .inl ⟨rfl, _, SqL.of eA1⟩, _, rfl, _, rfl, ll, _, rfl, .inl (SqL.of eA1), ?_⟩
      refine ⟨r, A.length, congrArg (fun z : Nat => [V.ref r, V.int (z : Int)]) (List.length_map _), hA, by omega, d1.row hrow, fun H2 j d2 hj => ?_⟩
      have eA2 := d2.at nrl eA1
      have eB2 := d2.at nrf eB1
      have gx : A[j]? = some A[j] := List.getElem?_eq_getElem hj
      have hix : seqIndex? (j : Int) (tn A).length = some j := by
        rw [List.length_map]
        have h1 : ¬ ((j : Int) < 0) := by omega
        have h2 : decide ((0 : Int) ≤ (j : Int)) = true := decide_eq_true (by omega)
        have h3 : decide ((j : Int) < (A.length : Int)) = true := decide_eq_true (by omega)
        unfold seqIndex?
        simp only [if_neg h1, h2, h3, Bool.and_self, if_true, Int.toNat_natCast]
      refine ⟨ll, tn A, (j : Int), j, vn A[j], rfl, rfl, eA2, by omega, by omega, hix, get_tn gx, ?_⟩
      have eB3 : (upd H2 ll (.lst ((tn A).eraseIdx j))) lf = some (.lst (tn B)) := by
        rw [upd_ne nf.symm]
        exact eB2
      refine ⟨lf, _, _, rfl, rfl, eB3, small1000 (by rw [List.length_map]; omega), ?_⟩
      have eT : (tn A).eraseIdx j = tn (A.eraseIdx j) := erase_tn A j
      refine ⟨_, ?_, A.eraseIdx j, B ++ [A[j]], rfl, ((d1.trans d2).put dl nrl).put df nrf, ?_, ?_, ?_, rfl⟩
      · rw [List.length_eraseIdx_of_lt hj]
        omega
      · rw [upd_ne nf, upd_same, eT]
      · rw [upd_same, tn_snoc]
      · have p1 : (A[j] :: A.eraseIdx j).Perm A := erase_perm A j _ gx
        have p2 : ((B ++ [A[j]]) ++ A.eraseIdx j).Perm (B ++ A) := by
          rw [List.append_assoc]
          exact List.Perm.append_left B p1
        exact p2.trans hp
end
end Wk
/-! The law's own defs: all orders. -/
namespace Wk
open PySem L2
/-- x may be read behind t -/
def Nxt (y : Yard) (t : List Nat) (x : Nat) : Prop := x ∉ t ∧ Ready y t x
theorem sides_filt {y : Yard} {t : List Nat} {x : Nat} (ok : y.Ok) (hx : x < y.m) : (sidesOf (y.w x)).filter (fun z => decide (z ∈ roomsOf (Ed y) y.many t)) ≠ [] ↔ Ready y t x := by
  constructor
  · intro h
    obtain ⟨z, hz⟩ := List.exists_mem_of_ne_nil _ h
    obtain ⟨h1, h2⟩ := List.mem_filter.mp hz
    exact ⟨z, h1, (mem_rooms.mp (of_decide_eq_true h2)).2⟩
  · rintro ⟨z, h1, h2⟩ e
    have hw := ok.at hx
    have h3 : z ∈ (sidesOf (y.w x)).filter (fun z => decide (z ∈ roomsOf (Ed y) y.many t)) := List.mem_filter.mpr ⟨h1, decide_eq_true (mem_rooms.mpr ⟨by rcases sides_mem h1 with q | q <;> omega, h2⟩)⟩
    rw [e] at h3
    cases h3
section
variable {P : Program} {w : World} {K : PySem.W.Frag} {mg : Str → Option Value} {base : Heap} {f : Addr} {fd : FuncData}
theorem ok_words (c__law_come : Cal P w K mg base 2 "_law_come" ["_law_yard_here", "_law_lot"] spReached) (c__law_sides : Cal P w K mg base 1 "_law_sides" ["_law_shut"] spSides) (F : Fun K "_law_words" "_law_words" s__law_words f fd) (T : Txt mg) :
    FnOk P w K mg base CX0 3 f fd ["_law_yard_here"] spWords := by
  refine F.ok sc__law_words (fun vs H Q E h => ?_) (fun cdv A outer s H vs Q E hr h => ?_)
  · obtain ⟨v, y, rfl, _⟩ := h
    rfl
  · obtain ⟨v, y, rfl, hY, q⟩ := h
    have ok3 : y.m ≤ 6 := hY.ok.nw
    obtain ⟨ok, a, b, ps, rfl, ha, hb, hp⟩ := id hY
    have hlp : (ps.map V.ref).length = y.m := by rw [List.length_map, paired_len hp]
    refine ⟨_, (pss_cons (ps_set (i := 1) sc__law_words.nd rfl (Or.inl rfl) (pe_lst (pa_cons (pe_tup pa_nil) pa_nil)))
      (pss_cons (ps_for PassesOwn.never rfl (pi_range1 (by rfl) T.range (pa_cons (pe_callB (lenK K) (by rfl) T.len b_len (pa_cons (pe_ix (ixTK K) (pv 0) pe_int (fun _ _ => rfl)) pa_nil)) pa_nil)) (pg_name (i := 2) sc__law_words.nd rfl (Or.inl rfl))
      (pss_cons (ps_set (i := 3) sc__law_words.nd rfl (Or.inl rfl) (pe_lst pa_nil))
        (pss_cons (ps_for PassesOwn.never rfl (pi_listK K (pv 1)) (pg_name (i := 4) sc__law_words.nd rfl (Or.inl rfl))
        (pss_cons (ps_set (i := 5) sc__law_words.nd rfl (Or.inr rfl) (pf c__law_come hr (by decide) (by rfl) (pa_cons (pv 0) (pa_cons (pv 4) pa_nil))))
          (pss_one (ps_for PassesOwn.never rfl (pi_range1 (by rfl) T.range (pa_cons (pe_callB (lenK K) (by rfl) T.len b_len (pa_cons (pe_ix (ixTK K) (pv 0) pe_int (fun _ _ => rfl)) pa_nil)) pa_nil)) (pg_name (i := 6) sc__law_words.nd rfl (Or.inl rfl))
          (pss_one (ps_if (PW.pt (pw_and (pt_cmpR (notInK K) (pv 6) (pv 4) (by rfl)) (pw_and1 (pt_cmpR (op_neD hr.units) (pe_lc (own := [("_law_side", 7)]) (g := gName 7) (by rfl) sc__law_words.nd (pi_tupK K (pf c__law_sides hr (by decide) (by rfl) (pa_cons (pe_ix (ixTK K) (pe_ix (ixTK K) (pv 0) pe_int (fun _ _ => rfl)) (pv 6) (fun _ _ => rfl)) pa_nil))) (blkOk_by (by kernel_rfl)) (fun _ _ _ _ _ => pg_name (i := 7) sc__law_words.nd rfl (Or.inl rfl)) (fun _ _ _ _ _ => pts_one (pt_cmpR (inK K) (pv 7) (pv 5) (by rfl))) (fun _ _ _ _ _ => (pv 7))) (pe_lst pa_nil) (nomark _)))))
            (pss_one (ps_expr (pe_bm PySem.F.plainAttrs_list PySem.F.slot_list_append PySem.F.type_list_append mt_append (pv 3) (pa_cons (pe_op op_consN (pe_tup (pa_cons (pv 6) pa_nil)) (pv 4)) pa_nil))))
            pss_nil))))))
        (pss_one (ps_set (i := 1) sc__law_words.nd rfl (Or.inl rfl) (pv 3))))))
      (pss_one (ps_ret (pe_callB (cr_sortedTu rfl) (by rfl) T.sorted b_sorted (pa_cons (pv 1) pa_nil)))))), ?_⟩
    refine ⟨sz (by simp), fun t0 nt0 => ⟨sz (by simp), fun lf0 nlf0 => ?_⟩⟩
    have z1 : Same H (upd H t0 (.tup [])) := same_upd nt0
    have z2 : Same (upd H t0 (.tup [])) (upd (upd H t0 (.tup [])) lf0 (.lst [.ref t0])) := same_upd nlf0
    have zt := z2 _ _ (upd_same (H := H) (a := t0) (o := .tup []))
    have zl : (upd (upd H t0 (.tup [])) lf0 (.lst [.ref t0])) lf0 = some (.lst [.ref t0]) := upd_same
    have z12 := z1.trans z2
    generalize upd (upd H t0 (.tup [])) lf0 (.lst [.ref t0]) = HA at z2 zt zl z12
    refine ⟨_, rfl, a, _, 1, _, rfl, rfl, SqT.of (z12 _ _ ha), rfl, b, _, rfl, .inr (SqT.of (z12 _ _ hb)), _, rfl, by omega, by omega, ?_⟩
    rw [Int.toNat_natCast, hlp]
    refine for_range (lo := 0) (n := y.m) (fun i σ H' => ∃ lf xs ws s2 s3 s4 s5 s6 s7, σ = [some (.ref a), some (.ref lf), s2, s3, s4, s5, s6, s7] ∧ Same H H' ∧ H' lf = some (.lst xs) ∧ Paired (Tu H') xs ws ∧ (∀ w, w ∈ ws ↔ Vd y w ∧ w.length = i) ∧ ws.length ≤ 6 ^ i)
      ⟨lf0, _, [[]], _, _, _, _, _, _, rfl, z12, zl, .cons ⟨t0, rfl, zt⟩ .nil, fun w => ?_, Nat.le_refl 1⟩ ?_ ?_
    · rw [List.mem_singleton]
      exact ⟨fun e => by subst e; exact ⟨trivial, rfl⟩, fun e => List.length_eq_zero_iff.mp e.2⟩
    · rintro i σ H1 hi ⟨lf, xs, ws, s2, s3, s4, s5, s6, s7, rfl, s1, hlf, pxs, hws, hlen⟩
      have h66 : 6 ^ (i + 1) ≤ 6 ^ 6 := Nat.pow_le_pow_right (by decide) (by omega)
      have h6e : 6 ^ (i + 1) = 6 ^ i * 6 := Nat.pow_succ ..
      have h67 : (6 : Nat) ^ 6 = 46656 := by decide
      have lxs : xs.length = ws.length := paired_len pxs
      refine ⟨sz (by simp), fun ll nll => ?_⟩
      have sL : Same H1 (upd H1 ll (.lst [])) := same_upd nll
      have nff : lf ≠ ll := ne_of_none hlf nll
      -- for tail in found
      refine ⟨_, rfl, lf, rfl, ⟨_, SqL.of (sL _ _ hlf)⟩, for_list (xs := xs) (fun j σ H3 => ∃ zs us s4 s5 s6 s7, σ = [some (.ref a), some (.ref lf), some (.int (0 + (i : Int))), some (.ref ll), s4, s5, s6, s7] ∧ Same H1 H3 ∧ H3 ll = some (.lst zs) ∧ Paired (Tu H3) zs us ∧
        (∀ u, u ∈ us ↔ ∃ t ∈ ws.take j, ∃ x, u = x :: t ∧ x < y.m ∧ Nxt y t x) ∧ us.length ≤ j * 6)
        ⟨[], [], _, _, _, _, rfl, sL, upd_same, .nil, fun u => ⟨fun h => (by cases h), fun ⟨t, ht, _⟩ => (by simp at ht)⟩, Nat.zero_le _⟩ (fun j σ H3 _ ⟨_, _, _, _, _, _, _, h, _⟩ => SqL.of (h _ _ hlf)) ?_ ?_⟩
      · rintro j tv σ H3 hj ⟨zs, us, s4, s5, s6, s7, rfl, r1, hll, pzs, hus, hul⟩
        obtain ⟨t, ht, ⟨ta, rfl, tt⟩⟩ := paired_at pxs hj
        have htw : t ∈ ws := List.mem_of_getElem? ht
        have hjl : j < ws.length := (List.getElem?_eq_some_iff.mp ht).1
        obtain ⟨vt, lt⟩ := (hws t).mp htw
        have hY3 := hY.mono (s1.trans r1)
        refine ⟨_, rfl, _, rfl, _, y, ta, t, rfl, hY3, r1 _ _ tt, vt.lt, fun H4 r s4' nr er => ?_⟩
        have r4 := r1.trans s4'
        refine ⟨_, rfl, a, _, 1, _, rfl, rfl, SqT.of ((s1.trans r4) _ _ ha), rfl, b, _, rfl, .inr (SqT.of ((s1.trans r4) _ _ hb)), _, rfl, by omega, by omega, ?_⟩
        rw [Int.toNat_natCast, hlp]
        refine for_range (lo := 0) (n := y.m) (fun k σ H5 => ∃ zs us s6 s7, σ = [some (.ref a), some (.ref lf), some (.int (0 + (i : Int))), some (.ref ll), some (.ref ta), some (.ref r), s6, s7] ∧ Same H1 H5 ∧ H5 r = some (.lst (tn (roomsOf (Ed y) y.many t))) ∧ H5 ll = some (.lst zs) ∧ Paired (Tu H5) zs us ∧
          (∀ u, u ∈ us ↔ (∃ t ∈ ws.take j, ∃ x, u = x :: t ∧ x < y.m ∧ Nxt y t x) ∨ ∃ x, u = x :: t ∧ x < k ∧ Nxt y t x) ∧ us.length ≤ j * 6 + k)
          ⟨zs, us, _, _, rfl, r4, er, s4' _ _ hll, paired_mono (fun _ _ h => h.mono s4') pzs, fun u => ⟨fun h => .inl ((hus u).mp h), fun h => ?_⟩, hul⟩ ?_ ?_
        · rcases h with h | ⟨x, _, hx, _⟩
          · exact (hus u).mpr h
          · exact absurd hx (Nat.not_lt_zero _)
        · rintro k σ H5 hk ⟨zs, us, s6, s7, rfl, r5, er5, hll5, pzs5, hus5, hul5⟩
          rw [Int.zero_add]
          have tt5 := r5 _ _ tt
          -- not this one
          have skip : ∀ s7' H', Same H5 H' → ¬ Nxt y t k → ∃ zs us s6 s7, [some (V.ref a), some (V.ref lf), some (V.int (0 + (i : Int))), some (V.ref ll), some (V.ref ta), some (V.ref r), some (vn k), s7'] = [some (.ref a), some (.ref lf), some (.int (0 + (i : Int))), some (.ref ll), some (.ref ta), some (.ref r), s6, s7] ∧ Same H1 H' ∧ H' r = some (.lst (tn (roomsOf (Ed y) y.many t))) ∧ H' ll = some (.lst zs) ∧ Paired (Tu H') zs us ∧
              (∀ u, u ∈ us ↔ (∃ t ∈ ws.take j, ∃ x, u = x :: t ∧ x < y.m ∧ Nxt y t x) ∨ ∃ x, u = x :: t ∧ x < k + 1 ∧ Nxt y t x) ∧ us.length ≤ j * 6 + (k + 1) := fun s7' H' sh hn =>
            ⟨zs, us, _, _, rfl, r5.trans sh, sh _ _ er5, sh _ _ hll5, paired_mono (fun _ _ h => h.mono sh) pzs5, fun u => ⟨fun h => by
              rcases (hus5 u).mp h with h | ⟨x, e, hx, hn⟩
              · exact .inl h
              · exact .inr ⟨x, e, by omega, hn⟩, fun h => by
              rcases h with h | ⟨x, e, hx, hn'⟩
              · exact (hus5 u).mpr (.inl h)
              · by_cases ex : x = k
                · rw [ex] at hn'
                  exact (hn hn').elim
                · exact (hus5 u).mpr (.inr ⟨x, e, by omega, hn'⟩)⟩, by omega⟩
          refine ⟨_, rfl, _, rfl, ta, _, rfl, .inr (SqT.of tt5), rfl, flat_n t, _, rfl, ite_notin (fun m1 => ?_) (fun m1 => ?_)⟩
          · have hkm : k < y.m := hk
            obtain ⟨p, gp, tp⟩ := wall_get hp hkm
            have s15 := s1.trans r5
            refine ⟨_, rfl, a, _, 1, _, rfl, rfl, SqT.of (s15 _ _ ha), rfl, _, rfl, b, _, (k : Int), .ref p, rfl, rfl, SqT.of (s15 _ _ hb), atI_n gp, ?_⟩
            refine ⟨p, y.w k, rfl, s15 _ _ tp, (ok.at hkm).2.2, fun H6 sd s6' nsd esd => ⟨sd, rfl, ⟨_, SqT.of esd⟩, fun D nD => ?_⟩⟩
            refine lc_filtT (fun z => decide (z ∈ roomsOf (Ed y) y.many t)) vn esd nD (Nat.le_trans (sides_len _) (by decide)) ?_ ?_
            · intro z H7 N hz s7' hT hF
              refine ⟨rfl, _, rfl, _, rfl, r, _, rfl, .inl (SqL.of ((s6'.trans s7') _ _ er5)), rfl, flat_n _, _, rfl, ite_in (fun h => ⟨_, rfl, hT (decide_eq_true h) H7 (Same.refl _)⟩) (fun h => hF (decide_eq_false h) H7 (Same.refl _))⟩
            · intro H7 s7' e7
              refine ⟨sz (by simp), fun e ne => ?_⟩
              have s8 : Same H7 (upd H7 e (.lst [])) := same_upd ne
              have ee : (upd H7 e (.lst [])) e = some (.lst []) := upd_same
              generalize upd H7 e (.lst []) = H8 at s8 ee
              have s58 := (s6'.trans s7').trans s8
              refine ⟨_, .list [], dp_lst (s8 _ _ e7), .lst (SqL.of ee) .nil, shaped_lst _, rfl, _, rfl, ?_⟩
              rw [eqv_nil_lst]
              by_cases hne : (sidesOf (y.w k)).filter (fun z => decide (z ∈ roomsOf (Ed y) y.many t)) = []
              · rw [decide_eq_true hne]
                exact iteF (skip _ H8 s58 fun h => (sides_filt ok hkm).mpr h.2 hne)
              · rw [decide_eq_false hne]
                have hN : Nxt y t k := ⟨m1, (sides_filt ok hkm).mp hne⟩
                have hll8 := s58 _ _ hll5
                refine iteT ⟨_, rfl, .inl ⟨rfl, _, SqL.of hll8⟩, _, rfl, sz (by simp), fun p1 np1 => ?_⟩
                have s9 : Same H8 (upd H8 p1 (.tup [vn k])) := same_upd np1
                refine ⟨_, rfl, p1, ta, k, t, rfl, rfl, upd_same, (s58.trans s9) _ _ tt5, by omega, fun H9 c s10 tc => ?_⟩
                have s59 := (s58.trans s9).trans s10
                have hll9 := s59 _ _ hll5
                have er9 := s59 _ _ er5
                have nrl : r ≠ ll := fun e => by
                  rw [e] at nr
                  rw [hll] at nr
                  cases nr
                refine ⟨ll, _, _, rfl, rfl, hll9, ?_, ?_⟩
                · have : zs.length = us.length := paired_len pzs5
                  have hs : sizeLine = 16777216 := rfl
                  have : j * 6 ≤ ws.length * 6 := Nat.mul_le_mul_right 6 (Nat.le_of_lt hjl)
                  have : ws.length * 6 ≤ 6 ^ i * 6 := Nat.mul_le_mul_right 6 hlen
                  omega
                · refine ⟨zs ++ [.ref c], us ++ [k :: t], _, _, rfl, Same.upd (r5.trans s59) nll, ?_, upd_same, paired_snoc (tu_upd ⟨c, rfl, tc⟩ hll9) (paired_mono (fun _ _ h => tu_upd (h.mono s59) hll9) pzs5), fun u => ?_, ?_⟩
                  · rw [upd_ne nrl]
                    exact er9
                  · rw [List.mem_append, List.mem_singleton, hus5 u]
                    constructor
                    · rintro (h | h)
                      · rcases h with h | ⟨x, e, hx, hn⟩
                        · exact .inl h
                        · exact .inr ⟨x, e, by omega, hn⟩
                      · exact .inr ⟨k, h, by omega, hN⟩
                    · rintro (h | ⟨x, e, hx, hn⟩)
                      · exact .inl (.inl h)
                      · by_cases ex : x = k
                        · rw [ex] at e
                          exact .inr e
                        · exact .inl (.inr ⟨x, e, by omega, hn⟩)
                  · rw [List.length_append]
                    rw [List.length_singleton]
                    omega
          · exact iteF (skip _ H5 (Same.refl _) fun h => h.1 m1)
        · rintro σ H5 ⟨zs, us, s6, s7, rfl, r5, er5, hll5, pzs5, hus5, hul5⟩
          refine ⟨zs, us, _, _, _, _, rfl, r5, hll5, pzs5, fun u => ?_, by omega⟩
          rw [hus5 u, take_snoc ht]
          constructor
          · rintro (⟨t', h1, h2⟩ | ⟨x, h1, h2, h3⟩)
            · exact ⟨t', List.mem_append_left _ h1, h2⟩
            · exact ⟨t, List.mem_append_right _ (List.mem_singleton.mpr rfl), x, h1, h2, h3⟩
          · rintro ⟨t', h1, h2⟩
            rcases List.mem_append.mp h1 with h1 | h1
            · exact .inl ⟨t', h1, h2⟩
            · have e := List.mem_singleton.mp h1
              subst e
              obtain ⟨x, g1, g2, g3⟩ := h2
              exact .inr ⟨x, g1, g2, g3⟩
      · rintro σ H3 ⟨zs, us, s4, s5, s6, s7, rfl, r1, hll, pzs, hus, hul⟩
        rw [lxs] at hus hul
        refine ⟨_, rfl, ll, zs, us, _, _, _, _, _, _, rfl, s1.trans r1, hll, pzs, fun u => ?_, ?_⟩
        · rw [hus u, List.take_length]
          constructor
          · rintro ⟨t, h1, x, e, hx, hn⟩
            obtain ⟨vt, lt⟩ := (hws t).mp h1
            rw [e]
            exact ⟨⟨hx, hn.1, hn.2, vt⟩, by rw [List.length_cons, lt]⟩
          · rintro ⟨vu, lu⟩
            cases u with
            | nil => simp at lu
            | cons x t => exact ⟨t, (hws t).mpr ⟨vu.2.2.2, by rw [List.length_cons] at lu; omega⟩, x, rfl, vu.1, vu.2.1, vu.2.2.1⟩
        · have : ws.length * 6 ≤ 6 ^ i * 6 := Nat.mul_le_mul_right 6 hlen
          omega
    · rintro σ H1 ⟨lf, xs, ws, s2, s3, s4, s5, s6, s7, rfl, s1, hlf, pxs, hws, hlen⟩
      have h66 : 6 ^ y.m ≤ 6 ^ 6 := Nat.pow_le_pow_right (by decide) ok3
      have h67 : (6 : Nat) ^ 6 = 46656 := by decide
      refine ⟨_, rfl, lf, xs, ws, y.m, rfl, SqL.of hlf, pxs, fun h2 => ?_, fun w hw => ((hws w).mp hw).2, fun ys us p pp pm st np => ?_⟩
      · by_cases h : 1 ≤ y.m
        · exact h
        · exfalso
          have e : y.m = 0 := by omega
          rw [e] at hlen
          have : (6 : Nat) ^ 0 = 1 := rfl
          omega
      · have sp : Same H1 (upd H1 p (.lst ys)) := same_upd np
        refine q _ p ys us (s1.trans sp) (s1.free np) upd_same (paired_mono (fun _ _ h => h.mono sp) pp) ⟨fun w => ?_, st⟩ (by rw [pm.length_eq]; omega)
        rw [pm.mem_iff]
        exact hws w
end
end Wk
/-! The law. -/
namespace Wk
open PySem L2
/-- the law answers True -/
def spLaw (K : PySem.W.Frag) : Sp := fun vs H Q _ => ∃ (script : Addr) (ns : List Int), vs = [.ref script] ∧ SqL K H script (ns.map V.int) ∧ ∀ H2, Q (.bl true) H2
theorem first_at (m : Int) : ∀ ms : List Int, m ∈ ms → ∃ j, ms[j]? = some m ∧ ∀ (i : Nat) (z : Int), i < j → ms[i]? = some z → z ≠ m
  | [], h => by cases h
  | c :: r, h => by
    by_cases e : c = m
    · exact ⟨0, by rw [e]; rfl, fun i z hi => absurd hi (Nat.not_lt_zero _)⟩
    · have hr : m ∈ r := by
        cases h with
        | head => exact (e rfl).elim
        | tail _ q => exact q
      obtain ⟨j, h1, h2⟩ := first_at m r hr
      refine ⟨j + 1, h1, fun i z hi hz => ?_⟩
      cases i with
      | zero =>
        have q := Option.some.inj hz
        rw [← q]
        exact e
      | succ i => exact h2 i z (by omega) hz
theorem sum_succ (g : Nat → Int) (k : Nat) : ((List.range (k + 1)).map g).sum = ((List.range k).map g).sum + g k := by
  rw [List.range_succ, List.map_append, List.map_cons, List.map_nil]
  generalize (List.range k).map g = l
  induction l with
  | nil => simp
  | cons c r ih => rw [List.cons_append, List.sum_cons, List.sum_cons, ih]; omega
theorem flat_i (ms : List Int) : (ms.map V.int).all flatV = true := by
  rw [List.all_eq_true]
  intro v hv
  obtain ⟨n, _, e⟩ := List.mem_map.mp hv
  rw [← e]
  rfl
section
variable {P : Program} {w : World} {K : PySem.W.Frag} {mg : Str → Option Value} {base : Heap} {f : Addr} {fd : FuncData}
theorem ok_law (c__law_yard : Cal P w K mg base 2 "_law_yard" ["_law_row", "_law_rooms", "_law_shuts", "_law_either"] (spYard K)) (c__law_words : Cal P w K mg base 3 "_law_words" ["_law_yard_here"] spWords)
    (c__law_shuffled : Cal P w K mg base 2 "_law_shuffled" ["_law_row", "_law_many"] (spShuffled K)) (c__law_ways : Cal P w K mg base 1 "_law_ways" ["_law_yard_here", "_law_lot", "_law_room"] spWays)
    (c__law_alike0 : Cal P w K mg base 1 "_law_alike" ["_law_found", "_law_due"] spAlike0) (c__law_alike : Cal P w K mg base 2 "_law_alike" ["_law_found", "_law_due"] spAlike) (c_warmth : Cal P w K mg base 5 "warmth" ["yard", "order"] spWarmth)
    (c_cut_times : Cal P w K mg base 5 "cut_times" ["yard", "order"] spCutTimes) (c_least_warmth : Cal P w K mg base 6 "least_warmth" ["yard"] (spBest false)) (c_greatest_warmth : Cal P w K mg base 6 "greatest_warmth" ["yard"] (spBest true))
    (c_cool_order : Cal P w K mg base 6 "cool_order" ["yard"] spCool) (F : Fun K "law" "law" s_law f fd) (T : Txt mg) : FnOk P w K mg base CX0 7 f fd ["_law_script"] (spLaw K) := by
  refine F.ok sc_law (fun vs H Q E h => ?_) (fun cdv A outer s H vs Q E hr h => ?_)
  · obtain ⟨a, ns, rfl, _⟩ := h
    rfl
  · obtain ⟨a, ns, rfl, hS, q⟩ := h
    refine ⟨_, (pss_cons (ps_set (i := 1) sc_law.nd rfl (Or.inl rfl) (pe_lst (pa_cons (pv 0) (pa_cons pe_int (pa_cons pe_int (pa_cons pe_int pa_nil))))))
      (pss_cons (ps_set (i := 2) sc_law.nd rfl (Or.inl rfl) (pf c__law_yard hr (by decide) (by rfl) (pa_cons (pv 1) (pa_cons pe_int (pa_cons pe_int (pa_cons pe_int pa_nil))))))
      (pss_cons (ps_set (i := 3) sc_law.nd rfl (Or.inl rfl) (pf c__law_words hr (by decide) (by rfl) (pa_cons (pv 2) pa_nil)))
      (pss_cons (ps_par (i := 4) (j := 5) (by rfl) sc_law.nd rfl rfl (by decide) rfl rfl (pa_cons (pf c__law_shuffled hr (by decide) (by rfl) (pa_cons (pv 1) (pa_cons (pe_callB (lenK K) (by rfl) T.len b_len (pa_cons (pe_ix (ixTK K) (pv 2) pe_int (fun _ _ => rfl)) pa_nil)) pa_nil))) (pa_cons (pe_lst pa_nil) pa_nil)) (by rfl))
      (pss_cons (ps_for PassesOwn.never rfl (pi_listK K (pe_op op_cat (pe_lst (pa_cons (pv 4) pa_nil)) (pv 3))) (pg_name (i := 6) sc_law.nd rfl (Or.inl rfl))
      (pss_cons (ps_set (i := 7) sc_law.nd rfl (Or.inl rfl) pe_int)
        (pss_cons (ps_for PassesOwn.never rfl (pi_range1 (by rfl) T.range (pa_cons (pe_callB (lenK K) (by rfl) T.len b_len (pa_cons (pv 6) pa_nil)) pa_nil)) (pg_name (i := 8) sc_law.nd rfl (Or.inl rfl))
        (pss_one (ps_set (i := 7) sc_law.nd rfl (Or.inl rfl) (pe_op op_sub (pe_op op_add (pv 7) (pe_callB (lenK K) (by rfl) T.len b_len (pa_cons (pe_callTy (call_list_dK rfl) (by rfl) T.list b_list (pa_cons (pf c__law_ways hr (by decide) (by rfl) (pa_cons (pv 2) (pa_cons (pe_slice slNK (pv 6) (po_some (pe_op op_add (pv 8) pe_int)) po_none) (pa_cons pe_int pa_nil)))) pa_nil)) pa_nil))) pe_int))))
        (pss_one (ps_expr (pe_bm PySem.F.plainAttrs_list PySem.F.slot_list_append PySem.F.type_list_append mt_append (pv 5) (pa_cons (pv 7) pa_nil)))))))
      (pss_cons (ps_if (pt_not (pt_val (pf c__law_alike0 hr (by decide) (by rfl) (pa_cons (pf c_warmth hr (by decide) (by rfl) (pa_cons (pv 2) (pa_cons (pv 4) pa_nil))) (pa_cons (pe_ix (ixLK K) (pv 5) pe_int (fun _ _ => rfl)) pa_nil)))))
      (pss_one (ps_ret pe_bl))
      pss_nil)
      (pss_cons (ps_if (pt_cmpR op_ne (pe_ix (ixLK K) (pv 5) pe_int (fun _ _ => rfl)) (pe_callB (sumK K) (by rfl) T.sum b_sum (pa_cons (pe_lc (own := [("_law_time", 9)]) (g := gName 9) (by rfl) sc_law.nd (pi_tupK K (pf c_cut_times hr (by decide) (by rfl) (pa_cons (pv 2) (pa_cons (pv 4) pa_nil)))) (blkOk_by (by kernel_rfl)) (fun _ _ _ _ _ => pg_name (i := 9) sc_law.nd rfl (Or.inl rfl)) (fun _ _ _ _ _ => pts_nil) (fun _ _ _ _ _ => (pe_callB (call_max2 rfl) (by rfl) T.max b_max (pa_cons pe_int (pa_cons (pe_op op_sub (pv 9) pe_int) pa_nil))))) pa_nil)) (nomark _))
      (pss_one (ps_ret pe_bl))
      pss_nil)
      (pss_cons (ps_if (pt_cmpR (op_eqD hr.units) (pv 3) (pe_lst pa_nil) (nomark _))
      (pss_one (ps_ret (pe_and (pe_cmpR op_isN (pf c_least_warmth hr (by decide) (by rfl) (pa_cons (pv 2) pa_nil)) pe_non (nomark _)) (pe_and (pe_cmpR op_isN (pf c_greatest_warmth hr (by decide) (by rfl) (pa_cons (pv 2) pa_nil)) pe_non (nomark _)) (pe_one (pe_cmpR op_isN (pf c_cool_order hr (by decide) (by rfl) (pa_cons (pv 2) pa_nil)) pe_non (nomark _)))))))
      pss_nil)
      (pss_cons (ps_if (pt_not (pt_val (pf c__law_alike hr (by decide) (by rfl) (pa_cons (pe_lst (pa_cons (pf c_least_warmth hr (by decide) (by rfl) (pa_cons (pv 2) pa_nil)) (pa_cons (pf c_greatest_warmth hr (by decide) (by rfl) (pa_cons (pv 2) pa_nil)) pa_nil))) (pa_cons (pe_lst (pa_cons (pe_callB (minK K) (by rfl) T.min b_min (pa_cons (pe_slice (slLK K) (pv 5) (po_some pe_int) po_none) pa_nil)) (pa_cons (pe_callB (maxK K) (by rfl) T.max b_max (pa_cons (pe_slice (slLK K) (pv 5) (po_some pe_int) po_none) pa_nil)) pa_nil))) pa_nil)))))
      (pss_one (ps_ret pe_bl))
      pss_nil)
      (pss_one (ps_ret (pf c__law_alike hr (by decide) (by rfl) (pa_cons (pf c_cool_order hr (by decide) (by rfl) (pa_cons (pv 2) pa_nil)) (pa_cons (pe_ix (ixLK K) (pv 3) (pe_bm PySem.F.plainAttrs_list PySem.F.slot_list_index PySem.F.type_list_index mt_index (pe_slice (slLK K) (pv 5) (po_some pe_int) po_none) (pa_cons (pe_callB (minK K) (by rfl) T.min b_min (pa_cons (pe_slice (slLK K) (pv 5) (po_some pe_int) po_none) pa_nil)) pa_nil)) (fun _ _ => rfl)) pa_nil)))))))))))))), ?_⟩
    refine ⟨_, rfl, sz (by simp), fun r nr => ?_⟩
    have row1 : RowOk K (upd H r (.lst [.ref a, .int 0, .int 4751, .int 0])) r := ⟨a, ns, 0, 4751, 0, upd_same, (Same.toDel (same_upd nr) nr).seq hS, Int.le_refl 0⟩
    generalize upd H r (.lst [.ref a, .int 0, .int 4751, .int 0]) = H1 at row1
    refine ⟨_, rfl, r, rfl, row1, fun H2 v y d2 hY2 => ?_⟩
    have row2 := d2.row row1
    refine ⟨_, rfl, v, y, rfl, hY2, fun H3 qw xs ws s3 nq eq3 px3 hw hlen => ?_⟩
    have row3 := row2.mono s3
    have hY3 := hY2.mono s3
    have nqr : qw ≠ r := by
      obtain ⟨_, _, _, _, _, h1, _⟩ := row2
      exact (ne_of_none h1 nq).symm
    have ok := hY3.ok
    have ok3 : y.m ≤ 6 := ok.nw
    obtain ⟨_, ya, yb, ps, rfl, ha, hb, hp⟩ := id hY3
    have hlp : (ps.map V.ref).length = y.m := by rw [List.length_map, paired_len hp]
    refine ⟨_, rfl, _, rfl, ya, _, 1, _, rfl, rfl, SqT.of ha, rfl, yb, _, rfl, .inr (SqT.of hb), r, y.m, congrArg (fun z : Nat => [V.ref r, V.int (z : Int)]) hlp, ok3, row3, fun H4 vo L d4 tL pL => ?_⟩
    have hY4 := d4.yd row3 hY3
    have eq4 := d4.at nqr eq3
    have px4 : Paired (Tu H4) xs ws := paired_mono (fun _ _ t => d4.tu row3 t) px3
    refine ⟨sz (by simp), fun lt nlt => ⟨_, _, rfl, ?_⟩⟩
    have s5 : Same H4 (upd H4 lt (.lst [])) := same_upd nlt
    have e5 : (upd H4 lt (.lst [])) lt = some (.lst []) := upd_same
    generalize upd H4 lt (.lst []) = H5 at s5 e5
    -- for word in [order] + words
    refine ⟨_, rfl, sz (by simp), fun l nl => ⟨_, rfl, l, qw, _, _, rfl, rfl, upd_same, (s5.trans (same_upd nl)) _ _ eq4, ?_, fun p np => ⟨p, rfl, ⟨_, SqL.of upd_same⟩, ?_⟩⟩⟩
    · have hs : sizeLine = 16777216 := rfl
      have : xs.length = ws.length := paired_len px4
      show 1 + xs.length ≤ sizeLine
      omega
    have s6 : Same H4 (upd (upd H5 l (.lst [vo])) p (.lst ([vo] ++ xs))) := (s5.trans (same_upd nl)).trans (same_upd np)
    have e6 : (upd (upd H5 l (.lst [vo])) p (.lst ([vo] ++ xs))) lt = some (.lst []) := ((same_upd nl).trans (same_upd np)) _ _ e5
    have ep6 : (upd (upd H5 l (.lst [vo])) p (.lst ([vo] ++ xs))) p = some (.lst (vo :: xs)) := upd_same
    have npl : p ≠ lt := (ne_of_none ((same_upd nl) _ _ e5) np).symm
    generalize upd (upd H5 l (.lst [vo])) p (.lst ([vo] ++ xs)) = H6 at s6 e6 ep6
    have pall : Paired (Tu H4) (vo :: xs) (L :: ws) := .cons tL px4
    have lall : (vo :: xs).length = (L :: ws).length := paired_len pall
    have wok : ∀ w ∈ L :: ws, w.length ≤ 6 ∧ ∀ z ∈ w, z < y.m := fun w h => by
      rcases List.mem_cons.mp h with rfl | hm
      · exact ⟨by rw [pL.length_eq, List.length_range]; exact ok3, fun z hz => List.mem_range.mp (pL.mem_iff.mp hz)⟩
      · obtain ⟨h1, h2⟩ := (hw.mem w).mp hm
        exact ⟨by omega, h1.lt⟩
    refine for_list (xs := vo :: xs) (fun i σ H' => ∃ s6 s7 s8 s9, σ = [some (.ref a), some (.ref r), some (.ref ya), some (.ref qw), some vo, some (.ref lt), s6, s7, s8, s9] ∧ Same H4 H' ∧ H' p = some (.lst (vo :: xs)) ∧ H' lt = some (.lst ((((L :: ws).take i).map (warm y)).map V.int)))
      ⟨_, _, _, _, rfl, s6, ep6, e6⟩ (fun i σ H' _ ⟨_, _, _, _, _, _, h, _⟩ => SqL.of h) ?_ ?_
    · rintro i wv σ H7 hi ⟨t6, t7, t8, t9, rfl, r7, ep7, el7⟩
      obtain ⟨wd, hwi, ⟨wa, rfl, tw⟩⟩ := paired_at pall hi
      obtain ⟨wl, wb⟩ := wok wd (List.mem_of_getElem? hwi)
      have hil : i < (L :: ws).length := (List.getElem?_eq_some_iff.mp hwi).1
      refine ⟨_, rfl, wa, _, rfl, .inr (SqT.of (r7 _ _ tw)), _, rfl, by rw [List.length_map]; omega, by rw [List.length_map]; omega, ?_⟩
      rw [List.length_map, Int.toNat_natCast]
      refine for_range (lo := 0) (n := wd.length) (fun k σ H' => ∃ s8 s9, σ = [some (.ref a), some (.ref r), some (.ref ya), some (.ref qw), some vo, some (.ref lt), some (.ref wa), some (.int ((List.range k).map fun p => (J y (wd.drop (p + 1)) : Int) - 1).sum), s8, s9] ∧ Same H4 H' ∧
        H' p = some (.lst (vo :: xs)) ∧ H' lt = some (.lst ((((L :: ws).take i).map (warm y)).map V.int)))
        ⟨_, _, rfl, r7, ep7, el7⟩ ?_ ?_
      · rintro k σ H8 hk ⟨t8, t9, rfl, r8, ep8, el8⟩
        rw [Int.zero_add]
        refine ⟨_, rfl, _, rfl, _, rfl, _, rfl, _, _, rfl, rfl, _, rfl, wa, wd, k + 1, rfl, r8 _ _ tw, congrArg some (succ_cast k), rfl, fun H9 pd s9 tp => ?_⟩
        refine ⟨_, y, pd, wd.drop (k + 1), rfl, (hY4.mono r8).mono s9, tp, fun z hz => wb z (List.mem_of_mem_drop hz), fun H10 d kvs s10 nd ed ekv => ?_⟩
        refine ⟨d, kvs, rfl, ed, fun ql nql => ⟨ql, _, rfl, .inl (SqL.of upd_same), _, _, rfl, rfl, _, _, rfl, rfl, ?_⟩⟩
        have s11 := (s9.trans s10).trans (same_upd (o := HO.lst (kvs.map fun kv => kV kv.1)) nql)
        refine ⟨_, _, congrArg (fun z : Int => [some (V.ref a), some (V.ref r), some (V.ref ya), some (V.ref qw), some vo, some (V.ref lt), some (V.ref wa), some (V.int z), some (vn k), t9]) ?_, r8.trans s11, s11 _ _ ep8, s11 _ _ el8⟩
        rw [sum_succ, List.length_map, ekv]
        omega
      · rintro σ H8 ⟨t8, t9, rfl, r8, ep8, el8⟩
        rw [warm_sum]
        refine ⟨_, rfl, .inl ⟨rfl, _, SqL.of el8⟩, _, rfl, lt, _, _, rfl, rfl, el8, ?_, ?_⟩
        · rw [List.length_map, List.length_map, List.length_take]
          have hs : sizeLine = 16777216 := rfl
          have := Nat.min_le_right i (L :: ws).length
          have : (L :: ws).length = ws.length + 1 := rfl
          omega
        · refine ⟨_, _, _, _, rfl, Same.upd r8 nlt, by rw [upd_ne npl]; exact ep8, ?_⟩
          rw [upd_same, take_snoc hwi, List.map_append, List.map_append]
          rfl
    · rintro σ H7 ⟨t6, t7, t8, t9, rfl, r7, ep7, el7⟩
      rw [lall, List.take_length] at el7
      clear ep7 e6 ep6 s6
      have at0 : atI (((L :: ws).map (warm y)).map V.int) ((0 : Nat) : Int) = some (.int (warm y L)) := atI_n rfl
      obtain ⟨oa, rfl, to⟩ := id tL
      have hY7 := hY4.mono r7
      -- the order's warmth
      refine ⟨_, rfl, _, rfl, _, y, oa, L, rfl, hY7, r7 _ _ to, pL, fun H8 s8 => ?_⟩
      have el8 := s8 _ _ el7
      refine ⟨_, rfl, lt, _, 0, .int (warm y L), rfl, rfl, SqL.of el8, at0, warm y L, rfl, fun H9 s9 => ⟨true, rfl, iteF ?_⟩⟩
      have s79 := s8.trans s9
      -- the times
      refine ⟨_, rfl, lt, _, 0, .int (warm y L), rfl, rfl, SqL.of (s79 _ _ el7), at0, _, rfl, _, rfl, _, y, oa, L, rfl, hY7.mono s79, (r7.trans s79) _ _ to, pL, fun H10 tc s10 ntc etc => ⟨tc, rfl, ⟨_, SqT.of etc⟩, fun D nD => ?_⟩⟩
      refine lc_filtT (fun _ => true) (fun t : Nat => V.int (if (t : Int) - 1 > 0 then (t : Int) - 1 else 0)) etc nD ?_ ?_ ?_
      · rw [List.length_map, List.length_range']
        have := ok.hi
        omega
      · intro x H11 N hx s11 hT _
        exact ⟨rfl, _, rfl, _, _, rfl, rfl, _, _, rfl, hT rfl H11 (Same.refl _)⟩
      · intro H11 s11 e11
        have s711 := (s79.trans s10).trans s11
        have e711 : ((((List.range' 1 (y.many - 1)).map (cut y L)).filter fun _ => true).map fun t : Nat => V.int (if (t : Int) - 1 > 0 then (t : Int) - 1 else 0)) = (((List.range' 1 (y.many - 1)).map (cut y L)).map fun t : Nat => if (t : Int) - 1 > 0 then (t : Int) - 1 else 0).map V.int := filt_ints _ fun t : Nat => if (t : Int) - 1 > 0 then (t : Int) - 1 else 0
        rw [e711] at e11
        have esum : (((List.range' 1 (y.many - 1)).map (cut y L)).map fun t : Nat => if (t : Int) - 1 > 0 then (t : Int) - 1 else 0).sum = warm y L := by
          rw [List.map_map, ← warm_cut ok L]
          refine congrArg List.sum (List.map_congr_left fun z _ => ?_)
          show (if (cut y L z : Int) - 1 > 0 then (cut y L z : Int) - 1 else 0) = max (0 : Int) ((cut y L z : Int) - 1)
          split <;> omega
        refine ⟨D, _, rfl, SqL.of e11, ?_⟩
        rw [esum]
        refine ⟨rfl, false, congrArg V.bl (ne_same _), iteF ?_⟩
        have hY11 := hY7.mono s711
        have el11 := s711 _ _ el7
        have eq11 := (r7.trans s711) _ _ eq4
        have px11 : Paired (Tu H11) xs ws := paired_mono (fun _ _ t => t.mono (r7.trans s711)) px4
        clear el8 el7 e11 s11 s10 s9 s8 s79 s711 etc ntc
        -- words == []
        refine ⟨_, rfl, sz (by simp), fun e ne => ?_⟩
        have s12 : Same H11 (upd H11 e (.lst [])) := same_upd ne
        have ee : (upd H11 e (.lst [])) e = some (.lst []) := upd_same
        generalize upd H11 e (.lst []) = H12 at s12 ee
        have hY12 := hY11.mono s12
        have el12 := s12 _ _ el11
        have eq12 := s12 _ _ eq11
        have px12 : Paired (Tu H12) xs ws := paired_mono (fun _ _ t => t.mono s12) px11
        refine ⟨_, .list [], dp_lay eq12 px12, .lst (SqL.of ee) .nil, shaped_lay _, rfl, _, rfl, ?_⟩
        rw [eqv_nil_lay]
        by_cases hnil : ws = []
        · rw [decide_eq_true hnil]
          have hg := hw.none hnil
          refine iteT ?_
          refine ⟨_, rfl, _, y, rfl, hY12, fun H13 r s13 hr => ?_⟩
          rcases hr with ⟨_, _, g, _⟩ | ⟨rfl, _⟩
          · exact (hg g).elim
          refine ⟨rfl, _, rfl, _, rfl, _, y, rfl, hY12.mono s13, fun H14 r s14 hr => ?_⟩
          rcases hr with ⟨_, _, g, _⟩ | ⟨rfl, _⟩
          · exact (hg g).elim
          refine ⟨rfl, _, rfl, _, rfl, _, y, rfl, (hY12.mono s13).mono s14, fun H15 r s15 hr => ?_⟩
          rcases hr with ⟨_, _, g, _⟩ | ⟨rfl, _⟩
          · exact (hg g).elim
          exact ⟨rfl, q _⟩
        · rw [decide_eq_false hnil]
          have hg := hw.growth hnil
          refine iteF ?_
          have ecut : cutV (((L :: ws).map (warm y)).map V.int) (some 1) none = (ws.map (warm y)).map V.int := cut_drop _ 1
          have hpos : 0 < (ws.map (warm y)).length := by
            rw [List.length_map]
            exact List.length_pos_iff.mpr hnil
          have uniq : ∀ (gr : Bool) u m, Best gr y (List.range y.m) u → m ∈ ws.map (warm y) → (∀ z ∈ ws.map (warm y), if gr = true then z ≤ m else m ≤ z) → u = m := fun gr u m b h1 h2 => b.uniq (hw.best h1 h2)
          refine ⟨_, rfl, _, y, rfl, hY12, fun H13 r1 s13 hr => ?_⟩
          rcases hr with ⟨u1, rfl, _, b1⟩ | ⟨_, g⟩
          rotate_left
          · exact (g hg).elim
          refine ⟨_, rfl, _, y, rfl, hY12.mono s13, fun H14 r1 s14 hr => ?_⟩
          rcases hr with ⟨u2, rfl, _, b2⟩ | ⟨_, g⟩
          rotate_left
          · exact (g hg).elim
          have s214 := s13.trans s14
          refine ⟨sz (by simp), fun la nla => ?_⟩
          have s15 : Same H14 (upd H14 la (.lst [.int u1, .int u2])) := same_upd nla
          have ela : (upd H14 la (.lst [.int u1, .int u2])) la = some (.lst [.int u1, .int u2]) := upd_same
          generalize upd H14 la (.lst [.int u1, .int u2]) = H15 at s15 ela
          have s215 := s214.trans s15
          refine ⟨_, rfl, 1, rfl, lt, _, rfl, SqL.of (s215 _ _ el12), fun c1 nc1 => ?_⟩
          rw [ecut]
          have s16 : Same H15 (upd H15 c1 (.lst ((ws.map (warm y)).map V.int))) := same_upd nc1
          refine ⟨c1, _, rfl, SqL.of upd_same, hpos, fun m1 hm1 hz1 => ?_⟩
          refine ⟨_, rfl, 1, rfl, lt, _, rfl, SqL.of ((s215.trans s16) _ _ el12), fun c2 nc2 => ?_⟩
          rw [ecut]
          have s17 : Same (upd H15 c1 (.lst ((ws.map (warm y)).map V.int))) (upd (upd H15 c1 (.lst ((ws.map (warm y)).map V.int))) c2 (.lst ((ws.map (warm y)).map V.int))) := same_upd nc2
          refine ⟨c2, _, rfl, SqL.of upd_same, hpos, fun m2 hm2 hz2 => ?_⟩
          refine ⟨sz (by simp), fun lb nlb => ?_⟩
          have f1 : u1 = m1 := uniq false u1 m1 b1 hm1 fun z hz => by rw [if_neg Bool.false_ne_true]; exact hz1 z hz
          have f2 : u2 = m2 := uniq true u2 m2 b2 hm2 fun z hz => by rw [if_pos rfl]; exact hz2 z hz
          subst f1 f2
          have s18 := (s16.trans s17).trans (same_upd (o := HO.lst [.int u1, .int u2]) nlb)
          have s218 := s215.trans s18
          refine ⟨la, lb, [u1, u2], rfl, by show 2 ≤ 100; decide, .inl ⟨s18 _ _ ela, upd_same⟩, fun H19 s19 => ⟨true, rfl, iteF ?_⟩⟩
          have s219 := s218.trans s19
          clear s18 s218 s17 s16 s215 s15 s214 ela nlb nc2 nc1 nla
          -- the order that is coolest
          refine ⟨_, rfl, _, y, rfl, hY12.mono s219, fun H20 r1 s20 hr => ?_⟩
          rcases hr with ⟨wc, ⟨ca, rfl, tc'⟩, _, hc⟩ | ⟨_, g⟩
          rotate_left
          · exact (g hg).elim
          have s220 := s219.trans s20
          refine ⟨_, rfl, _, rfl, 1, rfl, lt, _, rfl, SqL.of (s220 _ _ el12), fun c1 nc1 => ?_⟩
          rw [ecut]
          have s21 : Same H20 (upd H20 c1 (.lst ((ws.map (warm y)).map V.int))) := same_upd nc1
          have ec1 : (upd H20 c1 (.lst ((ws.map (warm y)).map V.int))) c1 = some (.lst ((ws.map (warm y)).map V.int)) := upd_same
          generalize upd H20 c1 (.lst ((ws.map (warm y)).map V.int)) = H21 at s21 ec1
          have s221 := s220.trans s21
          refine ⟨.inl ⟨rfl, _, SqL.of ec1⟩, ?_⟩
          refine ⟨_, rfl, 1, rfl, lt, _, rfl, SqL.of (s221 _ _ el12), fun c2 nc2 => ?_⟩
          rw [ecut]
          have s22 : Same H21 (upd H21 c2 (.lst ((ws.map (warm y)).map V.int))) := same_upd nc2
          refine ⟨c2, _, rfl, SqL.of upd_same, hpos, fun m hm hz => ?_⟩
          obtain ⟨j, hj, hno⟩ := first_at m _ hm
          obtain ⟨wj, hwj, ewj⟩ : ∃ wj, ws[j]? = some wj ∧ warm y wj = m := by
            rw [List.getElem?_map] at hj
            cases h : ws[j]? with
            | none =>
              rw [h] at hj
              cases hj
            | some wj =>
              rw [h] at hj
              exact ⟨wj, rfl, Option.some.inj hj⟩
          have hcool : Cool y (List.range y.m) wj := hw.cool hwj (fun u hu => by rw [ewj]; exact hz u hu) fun i w' hij hi' => by
            rw [ewj]
            refine hno i _ hij ?_
            rw [List.getElem?_map, hi']
            rfl
          have ewc := hc.uniq hcool
          subst ewc
          have s222 := s221.trans s22
          have eq22 := s222 _ _ eq12
          have px22 : Paired (Tu (upd H21 c2 (.lst ((ws.map (warm y)).map V.int)))) xs ws := paired_mono (fun _ _ t => t.mono s222) px12
          obtain ⟨xv, hxv, ⟨xa, rfl, tx⟩⟩ := paired_get px22 hwj
          have hjv : ((ws.map (warm y)).map V.int)[j]? = some (.int m) := by
            rw [List.getElem?_map, hj]
            rfl
          refine ⟨c1, _, .int m, j, .int m, rfl, rfl, SqL.of (s22 _ _ ec1), rfl, flat_i _, hjv, decide_eq_true rfl, fun i z' hi hz' => ?_, ?_⟩
          · rw [List.getElem?_map] at hz'
            cases h : (ws.map (warm y))[i]? with
            | none =>
              rw [h] at hz'
              cases hz'
            | some z =>
              rw [h] at hz'
              have e := Option.some.inj hz'
              rw [← e]
              exact decide_eq_false (p := z = m) (hno i z hi h)
          · have hcl : (cz wc).length ≤ 100 := by
              have h0 : (cz wc).length = wc.length := List.length_map _
              have := (wok wc (List.mem_cons_of_mem _ (List.mem_of_getElem? hwj))).1
              omega
            refine ⟨qw, xs, (j : Int), .ref xa, rfl, rfl, SqL.of eq22, atI_n hxv, ?_⟩
            exact ⟨ca, xa, cz wc, rfl, hcl, .inr ⟨by rw [tn_cz]; exact (s21.trans s22) _ _ tc', by rw [tn_cz]; exact tx⟩, fun H23 s23 => q _⟩
end
end Wk
/-! What the top has written; the law's call; the theorem. -/
namespace Wk
open PySem L2
theorem tops {l : PySem.W.OpenLaw} {w : World} {K : PySem.W.Frag} {h : Heap} {mg : Str → Option Value} {fa f0 f1 f2 f3 f4 f5 f6 f7 f8 f9 f10 f11 f12 f13 f14 f15 f16 f17 f18 f19 f20 f21 f22 f23 f24 f25 f26 f27 f28 f29 f30 f31 f32 : Addr} (X : K.In h) (G : h.Ns mainGlobals mg) (hfa : mg "law" = some (.ref fa))
    {o0 q0 : Option Addr} {z0 : Array (Option Value)} {u0 v0 d0 p0 e0 t0 : Value}
    {o1 q1 : Option Addr} {z1 : Array (Option Value)} {u1 v1 d1 p1 e1 t1 : Value}
    {o2 q2 : Option Addr} {z2 : Array (Option Value)} {u2 v2 d2 p2 e2 t2 : Value}
    {o3 q3 : Option Addr} {z3 : Array (Option Value)} {u3 v3 d3 p3 e3 t3 : Value}
    {o4 q4 : Option Addr} {z4 : Array (Option Value)} {u4 v4 d4 p4 e4 t4 : Value}
    {o5 q5 : Option Addr} {z5 : Array (Option Value)} {u5 v5 d5 p5 e5 t5 : Value}
    {o6 q6 : Option Addr} {z6 : Array (Option Value)} {u6 v6 d6 p6 e6 t6 : Value}
    {o7 q7 : Option Addr} {z7 : Array (Option Value)} {u7 v7 d7 p7 e7 t7 : Value}
    {o8 q8 : Option Addr} {z8 : Array (Option Value)} {u8 v8 d8 p8 e8 t8 : Value}
    {o9 q9 : Option Addr} {z9 : Array (Option Value)} {u9 v9 d9 p9 e9 t9 : Value}
    {o10 q10 : Option Addr} {z10 : Array (Option Value)} {u10 v10 d10 p10 e10 t10 : Value}
    {o11 q11 : Option Addr} {z11 : Array (Option Value)} {u11 v11 d11 p11 e11 t11 : Value}
    {o12 q12 : Option Addr} {z12 : Array (Option Value)} {u12 v12 d12 p12 e12 t12 : Value}
    {o13 q13 : Option Addr} {z13 : Array (Option Value)} {u13 v13 d13 p13 e13 t13 : Value}
    {o14 q14 : Option Addr} {z14 : Array (Option Value)} {u14 v14 d14 p14 e14 t14 : Value}
    {o15 q15 : Option Addr} {z15 : Array (Option Value)} {u15 v15 d15 p15 e15 t15 : Value}
    {o16 q16 : Option Addr} {z16 : Array (Option Value)} {u16 v16 d16 p16 e16 t16 : Value}
    {o17 q17 : Option Addr} {z17 : Array (Option Value)} {u17 v17 d17 p17 e17 t17 : Value}
    {o18 q18 : Option Addr} {z18 : Array (Option Value)} {u18 v18 d18 p18 e18 t18 : Value}
    {o19 q19 : Option Addr} {z19 : Array (Option Value)} {u19 v19 d19 p19 e19 t19 : Value}
    {o20 q20 : Option Addr} {z20 : Array (Option Value)} {u20 v20 d20 p20 e20 t20 : Value}
    {o21 q21 : Option Addr} {z21 : Array (Option Value)} {u21 v21 d21 p21 e21 t21 : Value}
    {o22 q22 : Option Addr} {z22 : Array (Option Value)} {u22 v22 d22 p22 e22 t22 : Value}
    {o23 q23 : Option Addr} {z23 : Array (Option Value)} {u23 v23 d23 p23 e23 t23 : Value}
    {o24 q24 : Option Addr} {z24 : Array (Option Value)} {u24 v24 d24 p24 e24 t24 : Value}
    {o25 q25 : Option Addr} {z25 : Array (Option Value)} {u25 v25 d25 p25 e25 t25 : Value}
    {o26 q26 : Option Addr} {z26 : Array (Option Value)} {u26 v26 d26 p26 e26 t26 : Value}
    {o27 q27 : Option Addr} {z27 : Array (Option Value)} {u27 v27 d27 p27 e27 t27 : Value}
    {o28 q28 : Option Addr} {z28 : Array (Option Value)} {u28 v28 d28 p28 e28 t28 : Value}
    {o29 q29 : Option Addr} {z29 : Array (Option Value)} {u29 v29 d29 p29 e29 t29 : Value}
    {o30 q30 : Option Addr} {z30 : Array (Option Value)} {u30 v30 d30 p30 e30 t30 : Value}
    {o31 q31 : Option Addr} {z31 : Array (Option Value)} {u31 v31 d31 p31 e31 t31 : Value}
    {o32 q32 : Option Addr} {z32 : Array (Option Value)} {u32 v32 d32 p32 e32 t32 : Value}
    (a0 : PySem.W.nsIn K mainGlobals "is_int" = some (some (.ref f0))) (l0 : K.lookup f0 = some ⟨u0, o0, .func (PySem.W.fnOf "is_int" "is_int" (defArgs s_is_int) (defBody s_is_int) (defScope s_is_int) .none v0 d0 p0 q0 e0 t0), z0⟩) (c0 : PySem.W.codeIn K e0 "is_int" = true) (k0 : PySem.W.keepIn K (.ref f0) = true)
    (a1 : PySem.W.nsIn K mainGlobals "is_from" = some (some (.ref f1))) (l1 : K.lookup f1 = some ⟨u1, o1, .func (PySem.W.fnOf "is_from" "is_from" (defArgs s_is_from) (defBody s_is_from) (defScope s_is_from) .none v1 d1 p1 q1 e1 t1), z1⟩) (c1 : PySem.W.codeIn K e1 "is_from" = true) (k1 : PySem.W.keepIn K (.ref f1) = true)
    (a2 : PySem.W.nsIn K mainGlobals "is_wall" = some (some (.ref f2))) (l2 : K.lookup f2 = some ⟨u2, o2, .func (PySem.W.fnOf "is_wall" "is_wall" (defArgs s_is_wall) (defBody s_is_wall) (defScope s_is_wall) .none v2 d2 p2 q2 e2 t2), z2⟩) (c2 : PySem.W.codeIn K e2 "is_wall" = true) (k2 : PySem.W.keepIn K (.ref f2) = true)
    (a3 : PySem.W.nsIn K mainGlobals "need_yard" = some (some (.ref f3))) (l3 : K.lookup f3 = some ⟨u3, o3, .func (PySem.W.fnOf "need_yard" "need_yard" (defArgs s_need_yard) (defBody s_need_yard) (defScope s_need_yard) .none v3 d3 p3 q3 e3 t3), z3⟩) (c3 : PySem.W.codeIn K e3 "need_yard" = true) (k3 : PySem.W.keepIn K (.ref f3) = true)
    (a4 : PySem.W.nsIn K mainGlobals "sides_of" = some (some (.ref f4))) (l4 : K.lookup f4 = some ⟨u4, o4, .func (PySem.W.fnOf "sides_of" "sides_of" (defArgs s_sides_of) (defBody s_sides_of) (defScope s_sides_of) .none v4 d4 p4 q4 e4 t4), z4⟩) (c4 : PySem.W.codeIn K e4 "sides_of" = true) (k4 : PySem.W.keepIn K (.ref f4) = true)
    (a5 : PySem.W.nsIn K mainGlobals "every" = some (some (.ref f5))) (l5 : K.lookup f5 = some ⟨u5, o5, .func (PySem.W.fnOf "every" "every" (defArgs s_every) (defBody s_every) (defScope s_every) .none v5 d5 p5 q5 e5 t5), z5⟩) (c5 : PySem.W.codeIn K e5 "every" = true) (k5 : PySem.W.keepIn K (.ref f5) = true)
    (a6 : PySem.W.nsIn K mainGlobals "without" = some (some (.ref f6))) (l6 : K.lookup f6 = some ⟨u6, o6, .func (PySem.W.fnOf "without" "without" (defArgs s_without) (defBody s_without) (defScope s_without) .none v6 d6 p6 q6 e6 t6), z6⟩) (c6 : PySem.W.codeIn K e6 "without" = true) (k6 : PySem.W.keepIn K (.ref f6) = true)
    (a7 : PySem.W.nsIn K mainGlobals "rest_of" = some (some (.ref f7))) (l7 : K.lookup f7 = some ⟨u7, o7, .func (PySem.W.fnOf "rest_of" "rest_of" (defArgs s_rest_of) (defBody s_rest_of) (defScope s_rest_of) .none v7 d7 p7 q7 e7 t7), z7⟩) (c7 : PySem.W.codeIn K e7 "rest_of" = true) (k7 : PySem.W.keepIn K (.ref f7) = true)
    (a8 : PySem.W.nsIn K mainGlobals "reached" = some (some (.ref f8))) (l8 : K.lookup f8 = some ⟨u8, o8, .func (PySem.W.fnOf "reached" "reached" (defArgs s_reached) (defBody s_reached) (defScope s_reached) .none v8 d8 p8 q8 e8 t8), z8⟩) (c8 : PySem.W.codeIn K e8 "reached" = true) (k8 : PySem.W.keepIn K (.ref f8) = true)
    (a9 : PySem.W.nsIn K mainGlobals "joined" = some (some (.ref f9))) (l9 : K.lookup f9 = some ⟨u9, o9, .func (PySem.W.fnOf "joined" "joined" (defArgs s_joined) (defBody s_joined) (defScope s_joined) .none v9 d9 p9 q9 e9 t9), z9⟩) (c9 : PySem.W.codeIn K e9 "joined" = true) (k9 : PySem.W.keepIn K (.ref f9) = true)
    (a10 : PySem.W.nsIn K mainGlobals "is_ready" = some (some (.ref f10))) (l10 : K.lookup f10 = some ⟨u10, o10, .func (PySem.W.fnOf "is_ready" "is_ready" (defArgs s_is_ready) (defBody s_is_ready) (defScope s_is_ready) .none v10 d10 p10 q10 e10 t10), z10⟩) (c10 : PySem.W.codeIn K e10 "is_ready" = true) (k10 : PySem.W.keepIn K (.ref f10) = true)
    (a11 : PySem.W.nsIn K mainGlobals "is_growth" = some (some (.ref f11))) (l11 : K.lookup f11 = some ⟨u11, o11, .func (PySem.W.fnOf "is_growth" "is_growth" (defArgs s_is_growth) (defBody s_is_growth) (defScope s_is_growth) .none v11 d11 p11 q11 e11 t11), z11⟩) (c11 : PySem.W.codeIn K e11 "is_growth" = true) (k11 : PySem.W.keepIn K (.ref f11) = true)
    (a12 : PySem.W.nsIn K mainGlobals "need_order" = some (some (.ref f12))) (l12 : K.lookup f12 = some ⟨u12, o12, .func (PySem.W.fnOf "need_order" "need_order" (defArgs s_need_order) (defBody s_need_order) (defScope s_need_order) .none v12 d12 p12 q12 e12 t12), z12⟩) (c12 : PySem.W.codeIn K e12 "need_order" = true) (k12 : PySem.W.keepIn K (.ref f12) = true)
    (a13 : PySem.W.nsIn K mainGlobals "can_go_of" = some (some (.ref f13))) (l13 : K.lookup f13 = some ⟨u13, o13, .func (PySem.W.fnOf "can_go_of" "can_go_of" (defArgs s_can_go_of) (defBody s_can_go_of) (defScope s_can_go_of) .none v13 d13 p13 q13 e13 t13), z13⟩) (c13 : PySem.W.codeIn K e13 "can_go_of" = true) (k13 : PySem.W.keepIn K (.ref f13) = true)
    (a14 : PySem.W.nsIn K mainGlobals "can_come_of" = some (some (.ref f14))) (l14 : K.lookup f14 = some ⟨u14, o14, .func (PySem.W.fnOf "can_come_of" "can_come_of" (defArgs s_can_come_of) (defBody s_can_come_of) (defScope s_can_come_of) .none v14 d14 p14 q14 e14 t14), z14⟩) (c14 : PySem.W.codeIn K e14 "can_come_of" = true) (k14 : PySem.W.keepIn K (.ref f14) = true)
    (a15 : PySem.W.nsIn K mainGlobals "layers_of" = some (some (.ref f15))) (l15 : K.lookup f15 = some ⟨u15, o15, .func (PySem.W.fnOf "layers_of" "layers_of" (defArgs s_layers_of) (defBody s_layers_of) (defScope s_layers_of) .none v15 d15 p15 q15 e15 t15), z15⟩) (c15 : PySem.W.codeIn K e15 "layers_of" = true) (k15 : PySem.W.keepIn K (.ref f15) = true)
    (a16 : PySem.W.nsIn K mainGlobals "warmth_of" = some (some (.ref f16))) (l16 : K.lookup f16 = some ⟨u16, o16, .func (PySem.W.fnOf "warmth_of" "warmth_of" (defArgs s_warmth_of) (defBody s_warmth_of) (defScope s_warmth_of) .none v16 d16 p16 q16 e16 t16), z16⟩) (c16 : PySem.W.codeIn K e16 "warmth_of" = true) (k16 : PySem.W.keepIn K (.ref f16) = true)
    (a17 : PySem.W.nsIn K mainGlobals "warmth" = some (some (.ref f17))) (l17 : K.lookup f17 = some ⟨u17, o17, .func (PySem.W.fnOf "warmth" "warmth" (defArgs s_warmth) (defBody s_warmth) (defScope s_warmth) .none v17 d17 p17 q17 e17 t17), z17⟩) (c17 : PySem.W.codeIn K e17 "warmth" = true) (k17 : PySem.W.keepIn K (.ref f17) = true)
    (a18 : PySem.W.nsIn K mainGlobals "cut_time" = some (some (.ref f18))) (l18 : K.lookup f18 = some ⟨u18, o18, .func (PySem.W.fnOf "cut_time" "cut_time" (defArgs s_cut_time) (defBody s_cut_time) (defScope s_cut_time) .none v18 d18 p18 q18 e18 t18), z18⟩) (c18 : PySem.W.codeIn K e18 "cut_time" = true) (k18 : PySem.W.keepIn K (.ref f18) = true)
    (a19 : PySem.W.nsIn K mainGlobals "cut_times" = some (some (.ref f19))) (l19 : K.lookup f19 = some ⟨u19, o19, .func (PySem.W.fnOf "cut_times" "cut_times" (defArgs s_cut_times) (defBody s_cut_times) (defScope s_cut_times) .none v19 d19 p19 q19 e19 t19), z19⟩) (c19 : PySem.W.codeIn K e19 "cut_times" = true) (k19 : PySem.W.keepIn K (.ref f19) = true)
    (a20 : PySem.W.nsIn K mainGlobals "warmths" = some (some (.ref f20))) (l20 : K.lookup f20 = some ⟨u20, o20, .func (PySem.W.fnOf "warmths" "warmths" (defArgs s_warmths) (defBody s_warmths) (defScope s_warmths) .none v20 d20 p20 q20 e20 t20), z20⟩) (c20 : PySem.W.codeIn K e20 "warmths" = true) (k20 : PySem.W.keepIn K (.ref f20) = true)
    (a21 : PySem.W.nsIn K mainGlobals "least_warmth" = some (some (.ref f21))) (l21 : K.lookup f21 = some ⟨u21, o21, .func (PySem.W.fnOf "least_warmth" "least_warmth" (defArgs s_least_warmth) (defBody s_least_warmth) (defScope s_least_warmth) .none v21 d21 p21 q21 e21 t21), z21⟩) (c21 : PySem.W.codeIn K e21 "least_warmth" = true) (k21 : PySem.W.keepIn K (.ref f21) = true)
    (a22 : PySem.W.nsIn K mainGlobals "greatest_warmth" = some (some (.ref f22))) (l22 : K.lookup f22 = some ⟨u22, o22, .func (PySem.W.fnOf "greatest_warmth" "greatest_warmth" (defArgs s_greatest_warmth) (defBody s_greatest_warmth) (defScope s_greatest_warmth) .none v22 d22 p22 q22 e22 t22), z22⟩) (c22 : PySem.W.codeIn K e22 "greatest_warmth" = true) (k22 : PySem.W.keepIn K (.ref f22) = true)
    (a23 : PySem.W.nsIn K mainGlobals "cool_order" = some (some (.ref f23))) (l23 : K.lookup f23 = some ⟨u23, o23, .func (PySem.W.fnOf "cool_order" "cool_order" (defArgs s_cool_order) (defBody s_cool_order) (defScope s_cool_order) .none v23 d23 p23 q23 e23 t23), z23⟩) (c23 : PySem.W.codeIn K e23 "cool_order" = true) (k23 : PySem.W.keepIn K (.ref f23) = true)
    (a24 : PySem.W.nsIn K mainGlobals "_law_taken" = some (some (.ref f24))) (l24 : K.lookup f24 = some ⟨u24, o24, .func (PySem.W.fnOf "_law_taken" "_law_taken" (defArgs s__law_taken) (defBody s__law_taken) (defScope s__law_taken) .none v24 d24 p24 q24 e24 t24), z24⟩) (c24 : PySem.W.codeIn K e24 "_law_taken" = true) (k24 : PySem.W.keepIn K (.ref f24) = true)
    (a25 : PySem.W.nsIn K mainGlobals "_law_sides" = some (some (.ref f25))) (l25 : K.lookup f25 = some ⟨u25, o25, .func (PySem.W.fnOf "_law_sides" "_law_sides" (defArgs s__law_sides) (defBody s__law_sides) (defScope s__law_sides) .none v25 d25 p25 q25 e25 t25), z25⟩) (c25 : PySem.W.codeIn K e25 "_law_sides" = true) (k25 : PySem.W.keepIn K (.ref f25) = true)
    (a26 : PySem.W.nsIn K mainGlobals "_law_alike" = some (some (.ref f26))) (l26 : K.lookup f26 = some ⟨u26, o26, .func (PySem.W.fnOf "_law_alike" "_law_alike" (defArgs s__law_alike) (defBody s__law_alike) (defScope s__law_alike) .none v26 d26 p26 q26 e26 t26), z26⟩) (c26 : PySem.W.codeIn K e26 "_law_alike" = true) (k26 : PySem.W.keepIn K (.ref f26) = true)
    (a27 : PySem.W.nsIn K mainGlobals "_law_come" = some (some (.ref f27))) (l27 : K.lookup f27 = some ⟨u27, o27, .func (PySem.W.fnOf "_law_come" "_law_come" (defArgs s__law_come) (defBody s__law_come) (defScope s__law_come) .none v27 d27 p27 q27 e27 t27), z27⟩) (c27 : PySem.W.codeIn K e27 "_law_come" = true) (k27 : PySem.W.keepIn K (.ref f27) = true)
    (a28 : PySem.W.nsIn K mainGlobals "_law_ways" = some (some (.ref f28))) (l28 : K.lookup f28 = some ⟨u28, o28, .func (PySem.W.fnOf "_law_ways" "_law_ways" (defArgs s__law_ways) (defBody s__law_ways) (defScope s__law_ways) .none v28 d28 p28 q28 e28 t28), z28⟩) (c28 : PySem.W.codeIn K e28 "_law_ways" = true) (k28 : PySem.W.keepIn K (.ref f28) = true)
    (a29 : PySem.W.nsIn K mainGlobals "_law_yard" = some (some (.ref f29))) (l29 : K.lookup f29 = some ⟨u29, o29, .func (PySem.W.fnOf "_law_yard" "_law_yard" (defArgs s__law_yard) (defBody s__law_yard) (defScope s__law_yard) .none v29 d29 p29 q29 e29 t29), z29⟩) (c29 : PySem.W.codeIn K e29 "_law_yard" = true) (k29 : PySem.W.keepIn K (.ref f29) = true)
    (a30 : PySem.W.nsIn K mainGlobals "_law_shuffled" = some (some (.ref f30))) (l30 : K.lookup f30 = some ⟨u30, o30, .func (PySem.W.fnOf "_law_shuffled" "_law_shuffled" (defArgs s__law_shuffled) (defBody s__law_shuffled) (defScope s__law_shuffled) .none v30 d30 p30 q30 e30 t30), z30⟩) (c30 : PySem.W.codeIn K e30 "_law_shuffled" = true) (k30 : PySem.W.keepIn K (.ref f30) = true)
    (a31 : PySem.W.nsIn K mainGlobals "_law_words" = some (some (.ref f31))) (l31 : K.lookup f31 = some ⟨u31, o31, .func (PySem.W.fnOf "_law_words" "_law_words" (defArgs s__law_words) (defBody s__law_words) (defScope s__law_words) .none v31 d31 p31 q31 e31 t31), z31⟩) (c31 : PySem.W.codeIn K e31 "_law_words" = true) (k31 : PySem.W.keepIn K (.ref f31) = true)
    (a32 : PySem.W.nsIn K mainGlobals "law" = some (some (.ref f32))) (l32 : K.lookup f32 = some ⟨u32, o32, .func (PySem.W.fnOf "law" "law" (defArgs s_law) (defBody s_law) (defScope s_law) .none v32 d32 p32 q32 e32 t32), z32⟩) (c32 : PySem.W.codeIn K e32 "law" = true) (k32 : PySem.W.keepIn K (.ref f32) = true)
    (n_len : PySem.W.nsIn K mainGlobals "len" = some none)
    (n_isinstance : PySem.W.nsIn K mainGlobals "isinstance" = some none)
    (n_any : PySem.W.nsIn K mainGlobals "any" = some none)
    (n_all : PySem.W.nsIn K mainGlobals "all" = some none)
    (n_sum : PySem.W.nsIn K mainGlobals "sum" = some none)
    (n_max : PySem.W.nsIn K mainGlobals "max" = some none)
    (n_min : PySem.W.nsIn K mainGlobals "min" = some none)
    (n_sorted : PySem.W.nsIn K mainGlobals "sorted" = some none)
    (n_int : PySem.W.nsIn K mainGlobals "int" = some none)
    (n_bool : PySem.W.nsIn K mainGlobals "bool" = some none)
    (n_str : PySem.W.nsIn K mainGlobals "str" = some none)
    (n_tuple : PySem.W.nsIn K mainGlobals "tuple" = some none)
    (n_list : PySem.W.nsIn K mainGlobals "list" = some none)
    (n_range : PySem.W.nsIn K mainGlobals "range" = some none)
    (n_enumerate : PySem.W.nsIn K mainGlobals "enumerate" = some none)
    {tr tw : Tok} (m_rooms : PySem.W.nsIn K mainGlobals "MOST_ROOMS" = some (some (.int 9 tr))) (m_walls : PySem.W.nsIn K mainGlobals "MOST_WALLS" = some (some (.int 12 tw))) :
    ∃ fd : FuncData, (∀ (s : Shared) (v : Value), BindsTo s fd ⟨[v], []⟩ [("_law_script", v)]) ∧ ∀ base : Heap, K.In base → base.Ns mainGlobals mg → FnOk l.prog w K mg base CX0 7 fa fd ["_law_script"] (spLaw K) := by
  have e := hfa.symm.trans (PySem.W.mg_of X G a32)
  cases e
  have T : Txt mg := ⟨PySem.W.mg_none_of X G n_len, PySem.W.mg_none_of X G n_isinstance, PySem.W.mg_none_of X G n_any, PySem.W.mg_none_of X G n_all, PySem.W.mg_none_of X G n_sum, PySem.W.mg_none_of X G n_max, PySem.W.mg_none_of X G n_min, PySem.W.mg_none_of X G n_sorted, PySem.W.mg_none_of X G n_int, PySem.W.mg_none_of X G n_bool, PySem.W.mg_none_of X G n_str, PySem.W.mg_none_of X G n_tuple, PySem.W.mg_none_of X G n_list, PySem.W.mg_none_of X G n_range, PySem.W.mg_none_of X G n_enumerate, ⟨_, PySem.W.mg_of X G m_rooms⟩, ⟨_, PySem.W.mg_of X G m_walls⟩⟩
  have F0 := fun_mk (st := s_is_int) l0 c0 k0
  have b0 := F0.binds (ps := ["value"]) fun _ _ _ _ _ _ us hl => match us, hl with | [_], _ => rfl
  have F1 := fun_mk (st := s_is_from) l1 c1 k1
  have b1 := F1.binds (ps := ["value", "least", "most"]) fun _ _ _ _ _ _ us hl => match us, hl with | [_, _, _], _ => rfl
  have F2 := fun_mk (st := s_is_wall) l2 c2 k2
  have b2 := F2.binds (ps := ["value", "many"]) fun _ _ _ _ _ _ us hl => match us, hl with | [_, _], _ => rfl
  have F3 := fun_mk (st := s_need_yard) l3 c3 k3
  have b3 := F3.binds (ps := ["value"]) fun _ _ _ _ _ _ us hl => match us, hl with | [_], _ => rfl
  have F4 := fun_mk (st := s_sides_of) l4 c4 k4
  have b4 := F4.binds (ps := ["wall"]) fun _ _ _ _ _ _ us hl => match us, hl with | [_], _ => rfl
  have F5 := fun_mk (st := s_every) l5 c5 k5
  have b5 := F5.binds (ps := ["yard"]) fun _ _ _ _ _ _ us hl => match us, hl with | [_], _ => rfl
  have F6 := fun_mk (st := s_without) l6 c6 k6
  have b6 := F6.binds (ps := ["lot", "number"]) fun _ _ _ _ _ _ us hl => match us, hl with | [_, _], _ => rfl
  have F7 := fun_mk (st := s_rest_of) l7 c7 k7
  have b7 := F7.binds (ps := ["yard", "lot"]) fun _ _ _ _ _ _ us hl => match us, hl with | [_, _], _ => rfl
  have F8 := fun_mk (st := s_reached) l8 c8 k8
  have b8 := F8.binds (ps := ["yard", "lot"]) fun _ _ _ _ _ _ us hl => match us, hl with | [_, _], _ => rfl
  have F9 := fun_mk (st := s_joined) l9 c9 k9
  have b9 := F9.binds (ps := ["yard", "lot"]) fun _ _ _ _ _ _ us hl => match us, hl with | [_, _], _ => rfl
  have F10 := fun_mk (st := s_is_ready) l10 c10 k10
  have b10 := F10.binds (ps := ["yard", "lot", "number"]) fun _ _ _ _ _ _ us hl => match us, hl with | [_, _, _], _ => rfl
  have F11 := fun_mk (st := s_is_growth) l11 c11 k11
  have b11 := F11.binds (ps := ["yard", "lot"]) fun _ _ _ _ _ _ us hl => match us, hl with | [_, _], _ => rfl
  have F12 := fun_mk (st := s_need_order) l12 c12 k12
  have b12 := F12.binds (ps := ["yard", "value"]) fun _ _ _ _ _ _ us hl => match us, hl with | [_, _], _ => rfl
  have F13 := fun_mk (st := s_can_go_of) l13 c13 k13
  have b13 := F13.binds (ps := ["yard", "lot"]) fun _ _ _ _ _ _ us hl => match us, hl with | [_, _], _ => rfl
  have F14 := fun_mk (st := s_can_come_of) l14 c14 k14
  have b14 := F14.binds (ps := ["yard", "lot"]) fun _ _ _ _ _ _ us hl => match us, hl with | [_, _], _ => rfl
  have F15 := fun_mk (st := s_layers_of) l15 c15 k15
  have b15 := F15.binds (ps := ["yard"]) fun _ _ _ _ _ _ us hl => match us, hl with | [_], _ => rfl
  have F16 := fun_mk (st := s_warmth_of) l16 c16 k16
  have b16 := F16.binds (ps := ["yard", "order"]) fun _ _ _ _ _ _ us hl => match us, hl with | [_, _], _ => rfl
  have F17 := fun_mk (st := s_warmth) l17 c17 k17
  have b17 := F17.binds (ps := ["yard", "order"]) fun _ _ _ _ _ _ us hl => match us, hl with | [_, _], _ => rfl
  have F18 := fun_mk (st := s_cut_time) l18 c18 k18
  have b18 := F18.binds (ps := ["yard", "order", "room"]) fun _ _ _ _ _ _ us hl => match us, hl with | [_, _, _], _ => rfl
  have F19 := fun_mk (st := s_cut_times) l19 c19 k19
  have b19 := F19.binds (ps := ["yard", "order"]) fun _ _ _ _ _ _ us hl => match us, hl with | [_, _], _ => rfl
  have F20 := fun_mk (st := s_warmths) l20 c20 k20
  have b20 := F20.binds (ps := ["yard", "greatest"]) fun _ _ _ _ _ _ us hl => match us, hl with | [_, _], _ => rfl
  have F21 := fun_mk (st := s_least_warmth) l21 c21 k21
  have b21 := F21.binds (ps := ["yard"]) fun _ _ _ _ _ _ us hl => match us, hl with | [_], _ => rfl
  have F22 := fun_mk (st := s_greatest_warmth) l22 c22 k22
  have b22 := F22.binds (ps := ["yard"]) fun _ _ _ _ _ _ us hl => match us, hl with | [_], _ => rfl
  have F23 := fun_mk (st := s_cool_order) l23 c23 k23
  have b23 := F23.binds (ps := ["yard"]) fun _ _ _ _ _ _ us hl => match us, hl with | [_], _ => rfl
  have F24 := fun_mk (st := s__law_taken) l24 c24 k24
  have b24 := F24.binds (ps := ["_law_row", "_law_many"]) fun _ _ _ _ _ _ us hl => match us, hl with | [_, _], _ => rfl
  have F25 := fun_mk (st := s__law_sides) l25 c25 k25
  have b25 := F25.binds (ps := ["_law_shut"]) fun _ _ _ _ _ _ us hl => match us, hl with | [_], _ => rfl
  have F26 := fun_mk (st := s__law_alike) l26 c26 k26
  have b26 := F26.binds (ps := ["_law_found", "_law_due"]) fun _ _ _ _ _ _ us hl => match us, hl with | [_, _], _ => rfl
  have F27 := fun_mk (st := s__law_come) l27 c27 k27
  have b27 := F27.binds (ps := ["_law_yard_here", "_law_lot"]) fun _ _ _ _ _ _ us hl => match us, hl with | [_, _], _ => rfl
  have F28 := fun_mk (st := s__law_ways) l28 c28 k28
  have b28 := F28.binds (ps := ["_law_yard_here", "_law_lot", "_law_room"]) fun _ _ _ _ _ _ us hl => match us, hl with | [_, _, _], _ => rfl
  have F29 := fun_mk (st := s__law_yard) l29 c29 k29
  have b29 := F29.binds (ps := ["_law_row", "_law_rooms", "_law_shuts", "_law_either"]) fun _ _ _ _ _ _ us hl => match us, hl with | [_, _, _, _], _ => rfl
  have F30 := fun_mk (st := s__law_shuffled) l30 c30 k30
  have b30 := F30.binds (ps := ["_law_row", "_law_many"]) fun _ _ _ _ _ _ us hl => match us, hl with | [_, _], _ => rfl
  have F31 := fun_mk (st := s__law_words) l31 c31 k31
  have b31 := F31.binds (ps := ["_law_yard_here"]) fun _ _ _ _ _ _ us hl => match us, hl with | [_], _ => rfl
  have F32 := fun_mk (st := s_law) l32 c32 k32
  refine ⟨PySem.W.fnOf "law" "law" (defArgs s_law) (defBody s_law) (defScope s_law) .none v32 d32 p32 q32 e32 t32, fun s v => .of_eq rfl, fun base _ _ => ?_⟩
  have c_is_int : Cal l.prog w K mg base 1 "is_int" ["value"] spIsInt := ⟨f0, _, ok_is_int  F0 T, PySem.W.mg_of X G a0, k0, b0⟩
  have c_is_from : Cal l.prog w K mg base 2 "is_from" ["value", "least", "most"] spIsFrom := ⟨f1, _, ok_is_from c_is_int F1 T, PySem.W.mg_of X G a1, k1, b1⟩
  have c_is_wall : Cal l.prog w K mg base 3 "is_wall" ["value", "many"] spIsWall := ⟨f2, _, ok_is_wall c_is_from F2 T, PySem.W.mg_of X G a2, k2, b2⟩
  have c_need_yard : Cal l.prog w K mg base 4 "need_yard" ["value"] spNeedYard := ⟨f3, _, ok_need_yard c_is_from c_is_wall F3 T, PySem.W.mg_of X G a3, k3, b3⟩
  have c_sides_of : Cal l.prog w K mg base 1 "sides_of" ["wall"] spSides := ⟨f4, _, ok_sides_of  F4 T, PySem.W.mg_of X G a4, k4, b4⟩
  have c_every : Cal l.prog w K mg base 1 "every" ["yard"] spEvery := ⟨f5, _, ok_every  F5 T, PySem.W.mg_of X G a5, k5, b5⟩
  have c_without : Cal l.prog w K mg base 1 "without" ["lot", "number"] spWithout := ⟨f6, _, ok_without  F6 T, PySem.W.mg_of X G a6, k6, b6⟩
  have c_rest_of : Cal l.prog w K mg base 2 "rest_of" ["yard", "lot"] spRest := ⟨f7, _, ok_rest_of c_every F7 T, PySem.W.mg_of X G a7, k7, b7⟩
  have c_reached : Cal l.prog w K mg base 2 "reached" ["yard", "lot"] spReached := ⟨f8, _, ok_reached c_sides_of F8 T, PySem.W.mg_of X G a8, k8, b8⟩
  have c_joined : Cal l.prog w K mg base 2 "joined" ["yard", "lot"] spJoined := ⟨f9, _, ok_joined  F9 T, PySem.W.mg_of X G a9, k9, b9⟩
  have c_is_ready : Cal l.prog w K mg base 3 "is_ready" ["yard", "lot", "number"] spReady := ⟨f10, _, ok_is_ready c_sides_of c_reached F10 T, PySem.W.mg_of X G a10, k10, b10⟩
  have c_is_growth : Cal l.prog w K mg base 3 "is_growth" ["yard", "lot"] spGrowth := ⟨f11, _, ok_is_growth c_sides_of c_reached F11 T, PySem.W.mg_of X G a11, k11, b11⟩
  have c_need_order : Cal l.prog w K mg base 2 "need_order" ["yard", "value"] spNeedOrder := ⟨f12, _, ok_need_order c_every F12 T, PySem.W.mg_of X G a12, k12, b12⟩
  have c_can_go_of : Cal l.prog w K mg base 4 "can_go_of" ["yard", "lot"] spCanGo := ⟨f13, _, ok_can_go_of c_without c_is_ready c_is_growth F13 T, PySem.W.mg_of X G a13, k13, b13⟩
  have c_can_come_of : Cal l.prog w K mg base 3 "can_come_of" ["yard", "lot"] spCanCome := ⟨f14, _, ok_can_come_of c_sides_of c_reached c_rest_of F14 T, PySem.W.mg_of X G a14, k14, b14⟩
  have c_layers_of : Cal l.prog w K mg base 4 "layers_of" ["yard"] spLayers := ⟨f15, _, ok_layers_of c_can_come_of F15 T, PySem.W.mg_of X G a15, k15, b15⟩
  have c_warmth_of : Cal l.prog w K mg base 3 "warmth_of" ["yard", "order"] spWarmthOf := ⟨f16, _, ok_warmth_of c_joined F16 T, PySem.W.mg_of X G a16, k16, b16⟩
  have c_warmth : Cal l.prog w K mg base 5 "warmth" ["yard", "order"] spWarmth := ⟨f17, _, ok_warmth c_need_yard c_need_order c_warmth_of F17 T, PySem.W.mg_of X G a17, k17, b17⟩
  have c_cut_time : Cal l.prog w K mg base 3 "cut_time" ["yard", "order", "room"] spCutTime := ⟨f18, _, ok_cut_time c_joined F18 T, PySem.W.mg_of X G a18, k18, b18⟩
  have c_cut_times : Cal l.prog w K mg base 5 "cut_times" ["yard", "order"] spCutTimes := ⟨f19, _, ok_cut_times c_need_yard c_need_order c_cut_time F19 T, PySem.W.mg_of X G a19, k19, b19⟩
  have c_warmths : Cal l.prog w K mg base 5 "warmths" ["yard", "greatest"] spWarmths := ⟨f20, _, ok_warmths c_layers_of c_can_go_of c_without c_joined F20 T, PySem.W.mg_of X G a20, k20, b20⟩
  have c_least_warmth : Cal l.prog w K mg base 6 "least_warmth" ["yard"] (spBest false) := ⟨f21, _, ok_least_warmth c_need_yard c_is_growth c_every c_warmths F21 T, PySem.W.mg_of X G a21, k21, b21⟩
  have c_greatest_warmth : Cal l.prog w K mg base 6 "greatest_warmth" ["yard"] (spBest true) := ⟨f22, _, ok_greatest_warmth c_need_yard c_is_growth c_every c_warmths F22 T, PySem.W.mg_of X G a22, k22, b22⟩
  have c_cool_order : Cal l.prog w K mg base 6 "cool_order" ["yard"] spCool := ⟨f23, _, ok_cool_order c_need_yard c_is_growth c_every c_warmths c_can_go_of c_without c_joined F23 T, PySem.W.mg_of X G a23, k23, b23⟩
  have c__law_taken : Cal l.prog w K mg base 1 "_law_taken" ["_law_row", "_law_many"] (spTaken K) := ⟨f24, _, ok_taken  F24 T, PySem.W.mg_of X G a24, k24, b24⟩
  have c__law_sides : Cal l.prog w K mg base 1 "_law_sides" ["_law_shut"] spSides := ⟨f25, _, ok_law_sides  F25 T, PySem.W.mg_of X G a25, k25, b25⟩
  have c__law_alike0 : Cal l.prog w K mg base 1 "_law_alike" ["_law_found", "_law_due"] spAlike0 := ⟨f26, _, ok_alike0  F26 T, PySem.W.mg_of X G a26, k26, b26⟩
  have c__law_alike : Cal l.prog w K mg base 2 "_law_alike" ["_law_found", "_law_due"] spAlike := ⟨f26, _, ok_alike c__law_alike0 F26 T, PySem.W.mg_of X G a26, k26, b26⟩
  have c__law_come : Cal l.prog w K mg base 2 "_law_come" ["_law_yard_here", "_law_lot"] spReached := ⟨f27, _, ok_come c__law_sides F27 T, PySem.W.mg_of X G a27, k27, b27⟩
  have c__law_ways : Cal l.prog w K mg base 1 "_law_ways" ["_law_yard_here", "_law_lot", "_law_room"] spWays := ⟨f28, _, ok_ways  F28 T, PySem.W.mg_of X G a28, k28, b28⟩
  have c__law_yard : Cal l.prog w K mg base 2 "_law_yard" ["_law_row", "_law_rooms", "_law_shuts", "_law_either"] (spYard K) := ⟨f29, _, ok_yard c__law_taken F29 T, PySem.W.mg_of X G a29, k29, b29⟩
  have c__law_shuffled : Cal l.prog w K mg base 2 "_law_shuffled" ["_law_row", "_law_many"] (spShuffled K) := ⟨f30, _, ok_shuffled c__law_taken F30 T, PySem.W.mg_of X G a30, k30, b30⟩
  have c__law_words : Cal l.prog w K mg base 3 "_law_words" ["_law_yard_here"] spWords := ⟨f31, _, ok_words c__law_come c__law_sides F31 T, PySem.W.mg_of X G a31, k31, b31⟩
  exact ok_law c__law_yard c__law_words c__law_shuffled c__law_ways c__law_alike0 c__law_alike c_warmth c_cut_times c_least_warmth c_greatest_warmth c_cool_order F32 T
theorem walk {l : PySem.W.OpenLaw} {q : Program} {loose : List Str} {XP : (Str → Option Value) → Heap → Prop} {YP : World → Heap → Prop} {d : DefRec} {K : Params → PySem.W.Frag} (hn : l.most = some 63) (hdf : d.params.defaults = [])
    (hY : ∀ (w : World) (h : Heap), YP w h → (K w.params).In h)
    (F : ∀ (w : World) (mg : Str → Option Value) (fa : Addr) (h : Heap), (K w.params).In h → h.Ns mainGlobals mg → mg d.name = some (.ref fa) →
      ∃ fd : FuncData, (∀ (s : Shared) (u : Value), BindsTo s fd ⟨[u], []⟩ [("_law_script", u)]) ∧ ∀ base : Heap, (K w.params).In base → base.Ns mainGlobals mg → FnOk l.prog w (K w.params) mg base CX0 7 fa fd ["_law_script"] (spLaw (K w.params))) :
    PySem.W.WalkO q loose XP YP l.row.toRowW d [] (fun f vs => PySem.call f vs) :=
  L2.walk_of (n := 63) (k := 7) (x := "_law_script") (CX := fun _ => CX0) (sp := fun w => spLaw (K w.params)) hn (by decide) hdf ⟨rfl, by decide, by decide⟩ hY F (fun _ _ a ns _ _ hS => ⟨a, ns, rfl, hS, fun _ => rfl⟩) fun _ _ _ _ _ z => z
end Wk

open PySem PySem.W PyProof.Rows in
set_option maxRecDepth 100000 in
set_option maxHeartbeats 0 in
theorem PySem.Challenge.cw_walledin_k51_whole_warmth_holds : PySem.Challenge.rw_walledin_k51_whole_warmth.Holds := by
  w_on; o_law; k_head; (case hw => w_witness2)
  k_fill
  refine Wk.walk (l := PySem.Challenge.rw_walledin_k51_whole_warmth) rfl rfl (fun w h Y => PySem.W.kIn_of Y) ?F
  case F =>
    intro w mg fa h KX G hmg
    refine' Wk.tops KX G hmg ?a0 ?l0 ?c0 ?k0 ?a1 ?l1 ?c1 ?k1 ?a2 ?l2 ?c2 ?k2 ?a3 ?l3 ?c3 ?k3 ?a4 ?l4 ?c4 ?k4 ?a5 ?l5 ?c5 ?k5 ?a6 ?l6 ?c6 ?k6 ?a7 ?l7 ?c7 ?k7 ?a8 ?l8 ?c8 ?k8 ?a9 ?l9 ?c9 ?k9 ?a10 ?l10 ?c10 ?k10 ?a11 ?l11 ?c11 ?k11 ?a12 ?l12 ?c12 ?k12 ?a13 ?l13 ?c13 ?k13 ?a14 ?l14 ?c14 ?k14 ?a15 ?l15 ?c15 ?k15 ?a16 ?l16 ?c16 ?k16 ?a17 ?l17 ?c17 ?k17 ?a18 ?l18 ?c18 ?k18 ?a19 ?l19 ?c19 ?k19 ?a20 ?l20 ?c20 ?k20 ?a21 ?l21 ?c21 ?k21 ?a22 ?l22 ?c22 ?k22 ?a23 ?l23 ?c23 ?k23 ?a24 ?l24 ?c24 ?k24 ?a25 ?l25 ?c25 ?k25 ?a26 ?l26 ?c26 ?k26 ?a27 ?l27 ?c27 ?k27 ?a28 ?l28 ?c28 ?k28 ?a29 ?l29 ?c29 ?k29 ?a30 ?l30 ?c30 ?k30 ?a31 ?l31 ?c31 ?k31 ?a32 ?l32 ?c32 ?k32 ?n_len ?n_isinstance ?n_any ?n_all ?n_sum ?n_max ?n_min ?n_sorted ?n_int ?n_bool ?n_str ?n_tuple ?n_list ?n_range ?n_enumerate ?m_rooms ?m_walls
    (case a0 => k_is)
    (case l0 => k_is)
    (case c0 => k_is)
    (case k0 => k_is)
    (case a1 => k_is)
    (case l1 => k_is)
    (case c1 => k_is)
    (case k1 => k_is)
    (case a2 => k_is)
    (case l2 => k_is)
    (case c2 => k_is)
    (case k2 => k_is)
    (case a3 => k_is)
    (case l3 => k_is)
    (case c3 => k_is)
    (case k3 => k_is)
    (case a4 => k_is)
    (case l4 => k_is)
    (case c4 => k_is)
    (case k4 => k_is)
    (case a5 => k_is)
    (case l5 => k_is)
    (case c5 => k_is)
    (case k5 => k_is)
    (case a6 => k_is)
    (case l6 => k_is)
    (case c6 => k_is)
    (case k6 => k_is)
    (case a7 => k_is)
    (case l7 => k_is)
    (case c7 => k_is)
    (case k7 => k_is)
    (case a8 => k_is)
    (case l8 => k_is)
    (case c8 => k_is)
    (case k8 => k_is)
    (case a9 => k_is)
    (case l9 => k_is)
    (case c9 => k_is)
    (case k9 => k_is)
    (case a10 => k_is)
    (case l10 => k_is)
    (case c10 => k_is)
    (case k10 => k_is)
    (case a11 => k_is)
    (case l11 => k_is)
    (case c11 => k_is)
    (case k11 => k_is)
    (case a12 => k_is)
    (case l12 => k_is)
    (case c12 => k_is)
    (case k12 => k_is)
    (case a13 => k_is)
    (case l13 => k_is)
    (case c13 => k_is)
    (case k13 => k_is)
    (case a14 => k_is)
    (case l14 => k_is)
    (case c14 => k_is)
    (case k14 => k_is)
    (case a15 => k_is)
    (case l15 => k_is)
    (case c15 => k_is)
    (case k15 => k_is)
    (case a16 => k_is)
    (case l16 => k_is)
    (case c16 => k_is)
    (case k16 => k_is)
    (case a17 => k_is)
    (case l17 => k_is)
    (case c17 => k_is)
    (case k17 => k_is)
    (case a18 => k_is)
    (case l18 => k_is)
    (case c18 => k_is)
    (case k18 => k_is)
    (case a19 => k_is)
    (case l19 => k_is)
    (case c19 => k_is)
    (case k19 => k_is)
    (case a20 => k_is)
    (case l20 => k_is)
    (case c20 => k_is)
    (case k20 => k_is)
    (case a21 => k_is)
    (case l21 => k_is)
    (case c21 => k_is)
    (case k21 => k_is)
    (case a22 => k_is)
    (case l22 => k_is)
    (case c22 => k_is)
    (case k22 => k_is)
    (case a23 => k_is)
    (case l23 => k_is)
    (case c23 => k_is)
    (case k23 => k_is)
    (case a24 => k_is)
    (case l24 => k_is)
    (case c24 => k_is)
    (case k24 => k_is)
    (case a25 => k_is)
    (case l25 => k_is)
    (case c25 => k_is)
    (case k25 => k_is)
    (case a26 => k_is)
    (case l26 => k_is)
    (case c26 => k_is)
    (case k26 => k_is)
    (case a27 => k_is)
    (case l27 => k_is)
    (case c27 => k_is)
    (case k27 => k_is)
    (case a28 => k_is)
    (case l28 => k_is)
    (case c28 => k_is)
    (case k28 => k_is)
    (case a29 => k_is)
    (case l29 => k_is)
    (case c29 => k_is)
    (case k29 => k_is)
    (case a30 => k_is)
    (case l30 => k_is)
    (case c30 => k_is)
    (case k30 => k_is)
    (case a31 => k_is)
    (case l31 => k_is)
    (case c31 => k_is)
    (case k31 => k_is)
    (case a32 => k_is)
    (case l32 => k_is)
    (case c32 => k_is)
    (case k32 => k_is)
    (case n_len => k_is)
    (case n_isinstance => k_is)
    (case n_any => k_is)
    (case n_all => k_is)
    (case n_sum => k_is)
    (case n_max => k_is)
    (case n_min => k_is)
    (case n_sorted => k_is)
    (case n_int => k_is)
    (case n_bool => k_is)
    (case n_str => k_is)
    (case n_tuple => k_is)
    (case n_list => k_is)
    (case n_range => k_is)
    (case n_enumerate => k_is)
    (case m_rooms => k_is)
    (case m_walls => k_is)
#print axioms PySem.Challenge.cw_walledin_k51_whole_warmth_holds
