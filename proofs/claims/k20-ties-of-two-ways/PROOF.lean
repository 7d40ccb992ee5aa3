import PyProof.Rows.All
import Wide.All
import OpenK.AllK
import Wide.FinOn
import HandS.ForMost
import KE.GoesEnum
import HandS.SetFor
import HandS.Strs
import HandS.SortInts
import KE.SortData
import HandS.Evl
import HandS.IsInst
import HandS.TupAny
import HandS.TupLe
import HandS.Conv
import HandS.Zip
import HandS.Deep
import HandS.Style
import HandS.Wide
import PySem.Challenge.RW_rungonce_k20_whole_ties_of_two_ways
set_option Elab.async false
set_option linter.all false
set_option maxRecDepth 100000
set_option maxHeartbeats 4000000
/-! Ties: the plain mathematics. -/
namespace RgM

/-! ### lists -/
theorem len_le_of_sub {α : Type} [DecidableEq α] : ∀ {l m : List α}, l.Nodup → (∀ x ∈ l, x ∈ m) → l.length ≤ m.length
  | [], m, _, _ => Nat.zero_le _
  | a :: l, m, hn, hs => by
    have ha : a ∈ m := hs a List.mem_cons_self
    have hn' := List.nodup_cons.mp hn
    have ih := len_le_of_sub (l := l) (m := m.erase a) hn'.2 (fun x hx => by
      have hne : x ≠ a := fun e => hn'.1 (e ▸ hx)
      exact (List.mem_erase_of_ne hne).mpr (hs x (List.mem_cons_of_mem _ hx)))
    have hl : (m.erase a).length = m.length - 1 := List.length_erase_of_mem ha
    have hp : 0 < m.length := List.length_pos_of_mem ha
    rw [List.length_cons]
    omega
theorem mem_of_full {α : Type} [DecidableEq α] {l m : List α} (hn : l.Nodup) (hs : ∀ x ∈ l, x ∈ m) (hl : m.length ≤ l.length) : ∀ x ∈ m, x ∈ l := by
  intro x hx
  refine Classical.byContradiction fun h => ?_
  have h1 := len_le_of_sub (l := x :: l) (m := m) (List.nodup_cons.mpr ⟨h, hn⟩) (fun y hy => by
    rcases List.mem_cons.mp hy with e | hy
    · exact e ▸ hx
    · exact hs y hy)
  rw [List.length_cons] at h1
  omega
/-- ascending lists with the same members are one -/
theorem asc_ext : ∀ {l m : List Nat}, l.Pairwise (· < ·) → m.Pairwise (· < ·) → (∀ x, x ∈ l ↔ x ∈ m) → l = m
  | [], [], _, _, _ => rfl
  | [], y :: m, _, _, h => absurd ((h y).mpr List.mem_cons_self) (by simp)
  | x :: l, [], _, _, h => absurd ((h x).mp List.mem_cons_self) (by simp)
  | x :: l, y :: m, hl, hm, h => by
    have hl' := List.pairwise_cons.mp hl
    have hm' := List.pairwise_cons.mp hm
    have hxy : x = y := by
      rcases List.mem_cons.mp ((h x).mp List.mem_cons_self) with e | hx
      · exact e
      · rcases List.mem_cons.mp ((h y).mpr List.mem_cons_self) with e | hy
        · exact e.symm
        · have a := hl'.1 y hy
          have b := hm'.1 x hx
          omega
    subst hxy
    have e := asc_ext hl'.2 hm'.2 (fun z => by
      constructor
      · intro hz
        rcases List.mem_cons.mp ((h z).mp (List.mem_cons_of_mem _ hz)) with e | hz'
        · have a := hl'.1 z hz
          omega
        · exact hz'
      · intro hz
        rcases List.mem_cons.mp ((h z).mpr (List.mem_cons_of_mem _ hz)) with e | hz'
        · have a := hm'.1 z hz
          omega
        · exact hz')
    rw [e]

/-! ### ties -/
/-- the members of a list of lots -/
structure IsTies (n : Nat) (s : Nat → Nat) (L : List (List Nat)) : Prop where
  ne : ∀ l ∈ L, l ≠ []
  asc : ∀ l ∈ L, l.Pairwise (· < ·)
  sub : ∀ l ∈ L, ∀ x ∈ l, x < n
  cover : ∀ x, x < n → ∃ l ∈ L, x ∈ l
  disj : ∀ l ∈ L, ∀ m ∈ L, ∀ x, x ∈ l → x ∈ m → l = m
  closed : ∀ l ∈ L, ∀ x ∈ l, s x ∈ l
  least : ∀ l ∈ L, ∀ x ∈ l, ∀ y ∈ l, ∀ S : Nat → Prop, (∀ z, z < n → (S z ↔ S (s z))) → S x → S y
  ord : L.Pairwise (fun l m => l.headD 0 < m.headD 0)

theorem IsTies.mem_of {n : Nat} {s : Nat → Nat} {L M : List (List Nat)} (a : IsTies n s L) (b : IsTies n s M) {l : List Nat} (hl : l ∈ L) : l ∈ M := by
  cases hc : l with
  | nil => exact absurd hc (a.ne l hl)
  | cons x r =>
    have hx : x ∈ l := by rw [hc]; exact List.mem_cons_self
    obtain ⟨m, hm, hxm⟩ := b.cover x (a.sub l hl x hx)
    have inv : ∀ {K : List (List Nat)} (c : IsTies n s K) {k : List Nat}, k ∈ K → ∀ z, z < n → (z ∈ k ↔ s z ∈ k) := fun {K} c {k} hk z hz => by
      refine ⟨fun h => c.closed k hk z h, fun h => ?_⟩
      obtain ⟨k', hk', hz'⟩ := c.cover z hz
      have e := c.disj k' hk' k hk (s z) (c.closed k' hk' z hz') h
      exact e ▸ hz'
    have e : l = m := asc_ext (a.asc l hl) (b.asc m hm) fun y =>
      ⟨fun hy => a.least l hl x hx y hy (· ∈ m) (inv b hm) hxm, fun hy => b.least m hm x hxm y hy (· ∈ l) (inv a hl) hx⟩
    rw [← hc, e]
    exact hm

/-- lists in strict order by a key, with the same members, are one -/
theorem ord_ext {α : Type} (k : α → Nat) : ∀ {l m : List α}, l.Pairwise (fun a b => k a < k b) → m.Pairwise (fun a b => k a < k b) → (∀ x, x ∈ l ↔ x ∈ m) → l = m
  | [], [], _, _, _ => rfl
  | [], y :: m, _, _, h => absurd ((h y).mpr List.mem_cons_self) (by simp)
  | x :: l, [], _, _, h => absurd ((h x).mp List.mem_cons_self) (by simp)
  | x :: l, y :: m, hl, hm, h => by
    have hl' := List.pairwise_cons.mp hl
    have hm' := List.pairwise_cons.mp hm
    have hxy : x = y := by
      rcases List.mem_cons.mp ((h x).mp List.mem_cons_self) with e | hx
      · exact e
      · rcases List.mem_cons.mp ((h y).mpr List.mem_cons_self) with e | hy
        · exact e.symm
        · have a := hl'.1 y hy
          have b := hm'.1 x hx
          omega
    subst hxy
    have e := ord_ext k hl'.2 hm'.2 (fun z => by
      constructor
      · intro hz
        rcases List.mem_cons.mp ((h z).mp (List.mem_cons_of_mem _ hz)) with e | hz'
        · have a := hl'.1 z hz
          rw [e] at a
          omega
        · exact hz'
      · intro hz
        rcases List.mem_cons.mp ((h z).mpr (List.mem_cons_of_mem _ hz)) with e | hz'
        · have a := hm'.1 z hz
          rw [e] at a
          omega
        · exact hz')
    rw [e]

theorem IsTies.unique {n : Nat} {s : Nat → Nat} {L M : List (List Nat)} (a : IsTies n s L) (b : IsTies n s M) : L = M :=
  ord_ext (fun l => l.headD 0) a.ord b.ord fun _ => ⟨a.mem_of b, b.mem_of a⟩

/-! ### tables of two ways -/
structure Tab2 (n : Nat) (p q s t : Nat → Nat) : Prop where
  pb : ∀ x, x < n → p x < n
  qb : ∀ x, x < n → q x < n
  sb : ∀ x, x < n → s x < n
  tb : ∀ x, x < n → t x < n
  pi : ∀ x y, x < n → y < n → p x = p y → x = y
  qi : ∀ x y, x < n → y < n → q x = q y → x = y
  sf : ∀ x, x < n → q (s x) = p x
  tf : ∀ x, x < n → q (t x) = x
section
variable {n : Nat} {p q s t : Nat → Nat}
theorem Tab2.si (T : Tab2 n p q s t) {x y : Nat} (hx : x < n) (hy : y < n) (e : s x = s y) : x = y := by
  have h1 := T.sf x hx
  have h2 := T.sf y hy
  rw [e, h2] at h1
  exact T.pi x y hx hy h1.symm
theorem Tab2.bound (T : Tab2 n p q s t) {x y : Nat} (hx : x < n) (hy : y < n) (e : p x = q y) : y = s x :=
  T.qi y (s x) hy (T.sb x hx) (by rw [T.sf x hx, e])
/-- a set that the follower stays in is left backwards neither -/
theorem Tab2.back (T : Tab2 n p q s t) (S : Nat → Prop) (h : ∀ x, x < n → S x → S (s x)) {x : Nat} (hx : x < n) (hs : S (s x)) : S x := by
  have dS : DecidablePred S := fun z => Classical.propDecidable (S z)
  have hm : ∀ y, y ∈ (List.range n).filter (fun z => decide (S z)) ↔ y < n ∧ S y := fun y => by
    rw [List.mem_filter, List.mem_range, decide_eq_true_eq]
  have hn : (((List.range n).filter (fun z => decide (S z))).map s).Nodup := by
    have h1 : ((List.range n).filter (fun z => decide (S z))).Nodup := List.nodup_range.filter _
    refine List.pairwise_map.mpr (List.Pairwise.imp_of_mem (fun {a b} ha hb hab e => ?_) h1)
    exact hab (T.si ((hm a).mp ha).1 ((hm b).mp hb).1 e)
  have hsub : ∀ y ∈ ((List.range n).filter (fun z => decide (S z))).map s, y ∈ (List.range n).filter (fun z => decide (S z)) := fun y hy => by
    obtain ⟨z, hz, e⟩ := List.mem_map.mp hy
    have hz' := (hm z).mp hz
    exact (hm y).mpr (e ▸ ⟨T.sb z hz'.1, h z hz'.1 hz'.2⟩)
  have hall := mem_of_full hn hsub (by rw [List.length_map]; exact Nat.le_refl _)
  have hsx := hall (s x) ((hm (s x)).mpr ⟨T.sb x hx, hs⟩)
  obtain ⟨z, hz, e⟩ := List.mem_map.mp hsx
  have hz' := (hm z).mp hz
  have e2 := T.si hz'.1 hx e
  exact e2 ▸ hz'.2

/-! ### the law's own ties: lots joined one by one -/
structure Lots (n : Nat) (s : Nat → Nat) (J : Nat → Prop) (L : List (List Nat)) : Prop where
  ne : ∀ l ∈ L, l ≠ []
  asc : ∀ l ∈ L, l.Pairwise (· < ·)
  sub : ∀ l ∈ L, ∀ x ∈ l, x < n
  cover : ∀ x, x < n → ∃ l ∈ L, x ∈ l
  disj : L.Pairwise (fun l m => ∀ x, x ∈ l → x ∉ m)
  least : ∀ l ∈ L, ∀ x ∈ l, ∀ y ∈ l, ∀ S : Nat → Prop, (∀ z, z < n → (S z ↔ S (s z))) → S x → S y
  joined : ∀ x, x < n → J x → ∃ l ∈ L, x ∈ l ∧ s x ∈ l

theorem pw_same {α : Type} {R : α → α → Prop} (sym : ∀ a b, R a b → R b a) : ∀ {L : List α}, L.Pairwise R → ∀ l ∈ L, ∀ m ∈ L, l = m ∨ R l m
  | [], _, l, hl, _, _ => absurd hl (by simp)
  | a :: L, h, l, hl, m, hm => by
    have h' := List.pairwise_cons.mp h
    rcases List.mem_cons.mp hl with e1 | hl1
    · rcases List.mem_cons.mp hm with e2 | hm1
      · exact .inl (e1.trans e2.symm)
      · exact .inr (e1 ▸ h'.1 m hm1)
    · rcases List.mem_cons.mp hm with e2 | hm1
      · exact .inr (e2 ▸ sym _ _ (h'.1 l hl1))
      · exact pw_same sym h'.2 l hl1 m hm1
theorem Lots.same {J : Nat → Prop} {L : List (List Nat)} (h : Lots n s J L) {l m : List Nat} (hl : l ∈ L) (hm : m ∈ L) {x : Nat} (a : x ∈ l) (b : x ∈ m) : l = m := by
  rcases pw_same (fun a b r x hb ha => r x ha hb) h.disj l hl m hm with e | e
  · exact e
  · exact absurd b (e x a)
theorem lots_start : Lots n s (fun _ => False) ((List.range n).map fun i => [i]) where
  ne := fun l hl => by
    obtain ⟨i, _, rfl⟩ := List.mem_map.mp hl
    simp
  asc := fun l hl => by
    obtain ⟨i, _, rfl⟩ := List.mem_map.mp hl
    simp
  sub := fun l hl x hx => by
    obtain ⟨i, hi, rfl⟩ := List.mem_map.mp hl
    rw [List.mem_singleton] at hx
    rw [hx]
    exact List.mem_range.mp hi
  cover := fun x hx => ⟨[x], List.mem_map.mpr ⟨x, List.mem_range.mpr hx, rfl⟩, List.mem_singleton.mpr rfl⟩
  disj := by
    refine List.pairwise_map.mpr ?_
    refine List.Pairwise.imp (fun {a b} hab x ha hb => ?_) List.nodup_range
    rw [List.mem_singleton] at ha hb
    exact hab (ha.symm.trans hb)
  least := fun l hl x hx y hy S _ h => by
    obtain ⟨i, _, rfl⟩ := List.mem_map.mp hl
    rw [List.mem_singleton] at hx hy
    rw [hy, ← hx]
    exact h
  joined := fun _ _ h => h.elim
theorem Lots.mono {J J' : Nat → Prop} {L : List (List Nat)} (h : Lots n s J L) (hj : ∀ x, x < n → J' x → J x) : Lots n s J' L :=
  ⟨h.ne, h.asc, h.sub, h.cover, h.disj, h.least, fun x hx j => h.joined x hx (hj x hx j)⟩

/-- the test of a lot: has it one of two numbers -/
def hasE (a b : Nat) (l : List Nat) : Bool := l.contains a || l.contains b
theorem hasE_iff {a b : Nat} {l : List Nat} : hasE a b l = true ↔ a ∈ l ∨ b ∈ l := by
  unfold hasE
  rw [Bool.or_eq_true, List.contains_iff_mem, List.contains_iff_mem]
theorem nodup_flatten : ∀ {L : List (List Nat)}, (∀ l ∈ L, l.Nodup) → L.Pairwise (fun l m => ∀ x, x ∈ l → x ∉ m) → L.flatten.Nodup
  | [], _, _ => List.nodup_nil
  | l :: L, h1, h2 => by
    have h2' := List.pairwise_cons.mp h2
    rw [List.flatten_cons]
    refine List.nodup_append.mpr ⟨h1 l List.mem_cons_self, nodup_flatten (fun m hm => h1 m (List.mem_cons_of_mem _ hm)) h2'.2, fun x hx y hy e => ?_⟩
    obtain ⟨m, hm, hym⟩ := List.mem_flatten.mp hy
    exact h2'.1 m hm x hx (e ▸ hym)
theorem asc_nodup {l : List Nat} (h : l.Pairwise (· < ·)) : l.Nodup := List.Pairwise.imp (fun {a b} hab e => by omega) h
theorem asc_of {l m : List Nat} (hp : l.Perm m) (hn : m.Nodup) (hs : l.Pairwise (· ≤ ·)) : l.Pairwise (· < ·) := by
  have hl : l.Nodup := hp.nodup_iff.mpr hn
  have := hs.and hl
  exact List.Pairwise.imp (fun {a b} hab => Nat.lt_of_le_of_ne hab.1 hab.2) this
/-- two lots joined by an edge -/
theorem Lots.join (T : Tab2 n p q s t) {J J' : Nat → Prop} {L : List (List Nat)} (h : Lots n s J L) {a b : Nat} (ha : a < n) (hb : b < n) (e : p a = q b) (hJ : ∀ x, x < n → J' x → J x ∨ x = a)
    {m : List Nat} (hp : m.Perm (L.filter (hasE a b)).flatten) (hs : m.Pairwise (· ≤ ·)) : Lots n s J' (L.filter (fun l => !hasE a b l) ++ [m]) := by
  have es : b = s a := T.bound ha hb e
  have hmem : ∀ x, x ∈ m ↔ ∃ l, l ∈ L ∧ (a ∈ l ∨ b ∈ l) ∧ x ∈ l := fun x => by
    rw [hp.mem_iff, List.mem_flatten]
    constructor
    · rintro ⟨l, hl, hx⟩
      have hl' := List.mem_filter.mp hl
      exact ⟨l, hl'.1, hasE_iff.mp hl'.2, hx⟩
    · rintro ⟨l, hl, he, hx⟩
      exact ⟨l, List.mem_filter.mpr ⟨hl, hasE_iff.mpr he⟩, hx⟩
  obtain ⟨la, hla, hala⟩ := h.cover a ha
  obtain ⟨lb, hlb, hblb⟩ := h.cover b hb
  have am : a ∈ m := (hmem a).mpr ⟨la, hla, .inl hala, hala⟩
  have bm : b ∈ m := (hmem b).mpr ⟨lb, hlb, .inr hblb, hblb⟩
  have rest : ∀ l, l ∈ L.filter (fun l => !hasE a b l) ↔ l ∈ L ∧ ¬ (a ∈ l ∨ b ∈ l) := fun l => by
    rw [List.mem_filter, Bool.not_eq_true']
    refine and_congr_right fun _ => ?_
    rw [← hasE_iff]
    cases hasE a b l <;> simp
  have split : ∀ l, l ∈ L.filter (fun l => !hasE a b l) ++ [m] → (l ∈ L ∧ ¬ (a ∈ l ∨ b ∈ l)) ∨ l = m := fun l hl => by
    rcases List.mem_append.mp hl with hl | hl
    · exact .inl ((rest l).mp hl)
    · exact .inr (List.mem_singleton.mp hl)
  have mIn : m ∈ L.filter (fun l => !hasE a b l) ++ [m] := List.mem_append_right _ (List.mem_singleton.mpr rfl)
  have put : ∀ x l, l ∈ L → x ∈ l → ∃ l' ∈ L.filter (fun l => !hasE a b l) ++ [m], (∀ y, y ∈ l → y ∈ l') := fun x l hl hx => by
    by_cases he : a ∈ l ∨ b ∈ l
    · exact ⟨m, mIn, fun y hy => (hmem y).mpr ⟨l, hl, he, hy⟩⟩
    · exact ⟨l, List.mem_append_left _ ((rest l).mpr ⟨hl, he⟩), fun y hy => hy⟩
  have hnd : (L.filter (hasE a b)).flatten.Nodup := nodup_flatten (fun l hl => asc_nodup (h.asc l (List.mem_filter.mp hl).1)) (h.disj.filter _)
  refine ⟨fun l hl => ?_, fun l hl => ?_, fun l hl x hx => ?_, fun x hx => ?_, ?_, fun l hl x hx y hy S hS hSx => ?_, fun x hx j => ?_⟩
  · rcases split l hl with ⟨hl, _⟩ | rfl
    · exact h.ne l hl
    · exact List.ne_nil_of_mem am
  · rcases split l hl with ⟨hl, _⟩ | rfl
    · exact h.asc l hl
    · exact asc_of hp hnd hs
  · rcases split l hl with ⟨hl, _⟩ | rfl
    · exact h.sub l hl x hx
    · obtain ⟨l', hl', _, hx'⟩ := (hmem x).mp hx
      exact h.sub l' hl' x hx'
  · obtain ⟨l, hl, hxl⟩ := h.cover x hx
    obtain ⟨l', hl', k⟩ := put x l hl hxl
    exact ⟨l', hl', k x hxl⟩
  · refine List.pairwise_append.mpr ⟨h.disj.filter _, List.pairwise_singleton _ _, fun l hl k hk x hx hxk => ?_⟩
    rw [List.mem_singleton] at hk
    subst hk
    have hl' := (rest l).mp hl
    obtain ⟨l2, hl2, he, hx2⟩ := (hmem x).mp hxk
    have e2 := h.same hl'.1 hl2 hx hx2
    exact hl'.2 (e2 ▸ he)
  · rcases split l hl with ⟨hl, _⟩ | rfl
    · exact h.least l hl x hx y hy S hS hSx
    · obtain ⟨l1, hl1, he1, hx1⟩ := (hmem x).mp hx
      obtain ⟨l2, hl2, he2, hy2⟩ := (hmem y).mp hy
      have hab : S a ↔ S b := by rw [es]; exact hS a ha
      have Sa : S a := by
        rcases he1 with k | k
        · exact h.least l1 hl1 x hx1 a k S hS hSx
        · exact hab.mpr (h.least l1 hl1 x hx1 b k S hS hSx)
      rcases he2 with k | k
      · exact h.least l2 hl2 a k y hy2 S hS Sa
      · exact h.least l2 hl2 b k y hy2 S hS (hab.mp Sa)
  · rcases hJ x hx j with j | rfl
    · obtain ⟨l, hl, h1, h2⟩ := h.joined x hx j
      obtain ⟨l', hl', k⟩ := put x l hl h1
      exact ⟨l', hl', k x h1, k _ h2⟩
    · exact ⟨m, mIn, am, es ▸ bm⟩

/-- two lots that are told apart by <= and share nothing, by their first -/
theorem head_lt {l m : List Nat} (hl : l ≠ []) (hm : m ≠ []) (hd : ∀ x, x ∈ l → x ∉ m) (h : ¬ m < l) : l.headD 0 < m.headD 0 := by
  cases l with
  | nil => exact absurd rfl hl
  | cons a l =>
    cases m with
    | nil => exact absurd rfl hm
    | cons b m =>
      show a < b
      have hne : a ≠ b := fun e => hd a List.mem_cons_self (e ▸ List.mem_cons_self)
      rcases Nat.lt_or_ge a b with k | k
      · exact k
      · exact absurd (List.cons_lt_cons_iff.mpr (.inl (Nat.lt_of_le_of_ne k (Ne.symm hne)))) h
theorem Lots.ties {J : Nat → Prop} {L M : List (List Nat)} (h : Lots n s J L) (hJ : ∀ x, x < n → J x) (hp : M.Perm L) (hs : M.Pairwise (fun l m => ¬ m < l)) : IsTies n s M := by
  have hm : ∀ {l}, l ∈ M → l ∈ L := fun {l} hl => hp.mem_iff.mp hl
  refine ⟨fun l hl => h.ne l (hm hl), fun l hl => h.asc l (hm hl), fun l hl => h.sub l (hm hl), fun x hx => ?_, fun l hl m hm' x a b => h.same (hm hl) (hm hm') a b, fun l hl x hx => ?_, fun l hl => h.least l (hm hl), ?_⟩
  · obtain ⟨l, hl, k⟩ := h.cover x hx
    exact ⟨l, hp.mem_iff.mpr hl, k⟩
  · have hxn := h.sub l (hm hl) x hx
    obtain ⟨l', hl', h1, h2⟩ := h.joined x hxn (hJ x hxn)
    have e := h.same hl' (hm hl) h1 hx
    exact e ▸ h2
  · have hd : M.Pairwise (fun l m => ∀ x, x ∈ l → x ∉ m) := (hp.pairwise_iff (fun {a b} r x hb ha => r x ha hb)).mpr h.disj
    have hb : M.Pairwise (fun l m => (¬ m < l) ∧ ∀ x, x ∈ l → x ∉ m) := hs.and hd
    exact List.Pairwise.imp_of_mem (fun {l m} hl hm' hlm => head_lt (h.ne l (hm hl)) (h.ne m (hm hm')) hlm.2 hlm.1) hb
end
end RgM
/-! Ties, further: rings walked one by one; choices; how many. -/
namespace RgM
def it (s : Nat → Nat) : Nat → Nat → Nat
  | 0, x => x
  | k + 1, x => s (it s k x)
def itL (s : Nat → Nat) (m x : Nat) : List Nat := (List.range m).map fun i => it s i x
theorem itL_succ (s : Nat → Nat) (m x : Nat) : itL s (m + 1) x = itL s m x ++ [it s m x] := by
  unfold itL
  rw [List.range_succ, List.map_append]
  rfl
theorem mem_itL {s : Nat → Nat} {m x y : Nat} : y ∈ itL s m x ↔ ∃ i, i < m ∧ it s i x = y := by
  unfold itL
  rw [List.mem_map]
  constructor
  · rintro ⟨i, hi, e⟩
    exact ⟨i, List.mem_range.mp hi, e⟩
  · rintro ⟨i, hi, e⟩
    exact ⟨i, List.mem_range.mpr hi, e⟩
theorem len_itL (s : Nat → Nat) (m x : Nat) : (itL s m x).length = m := by
  unfold itL
  rw [List.length_map, List.length_range]

/-- the lots found from the starts below k -/
structure Cyc (n : Nat) (s : Nat → Nat) (k : Nat) (F : List (List Nat)) : Prop where
  ne : ∀ l ∈ F, l ≠ []
  asc : ∀ l ∈ F, l.Pairwise (· < ·)
  sub : ∀ l ∈ F, ∀ x ∈ l, x < n
  cov : ∀ x, x < k → ∃ l ∈ F, x ∈ l
  disj : ∀ l ∈ F, ∀ m ∈ F, ∀ x, x ∈ l → x ∈ m → l = m
  closed : ∀ l ∈ F, ∀ x ∈ l, s x ∈ l
  least : ∀ l ∈ F, ∀ x ∈ l, ∀ y ∈ l, ∀ S : Nat → Prop, (∀ z, z < n → (S z ↔ S (s z))) → S x → S y
  inv : ∀ l ∈ F, ∀ x, x < n → s x ∈ l → x ∈ l
  ord : F.Pairwise (fun l m => l.headD 0 < m.headD 0)
  hd : ∀ l ∈ F, l.headD 0 < k
section
variable {n : Nat} {p q s t : Nat → Nat}
theorem Cyc.start : Cyc n s 0 [] := by
  constructor <;> intros <;> simp_all
theorem Cyc.ties {F : List (List Nat)} (c : Cyc n s n F) : IsTies n s F :=
  ⟨c.ne, c.asc, c.sub, c.cov, c.disj, c.closed, c.least, c.ord⟩
theorem Cyc.skip {k : Nat} {F : List (List Nat)} (c : Cyc n s k F) (h : ∃ l ∈ F, k ∈ l) : Cyc n s (k + 1) F :=
  ⟨c.ne, c.asc, c.sub, fun x hx => by
    rcases Nat.lt_or_ge x k with h1 | h1
    · exact c.cov x h1
    · have e : x = k := by omega
      exact e ▸ h, c.disj, c.closed, c.least, c.inv, c.ord, fun l hl => Nat.lt_succ_of_lt (c.hd l hl)⟩
/-- the ring from k, so far -/
structure Run (n : Nat) (s : Nat → Nat) (F : List (List Nat)) (k m : Nat) : Prop where
  out : ∀ i, i < m → ¬ ∃ l ∈ F, it s i k ∈ l
  nd : (itL s m k).Nodup
theorem Run.zero {F : List (List Nat)} {k : Nat} : Run n s F k 0 := ⟨fun i hi => absurd hi (Nat.not_lt_zero i), List.nodup_nil⟩
theorem it_lt (T : Tab2 n p q s t) {k : Nat} (hk : k < n) : ∀ i, it s i k < n
  | 0 => hk
  | i + 1 => T.sb _ (it_lt T hk i)
theorem Run.le (T : Tab2 n p q s t) {F : List (List Nat)} {k m : Nat} (hk : k < n) (r : Run n s F k m) : m ≤ n := by
  have h := len_le_of_sub (l := itL s m k) (m := List.range n) r.nd (fun x hx => by
    obtain ⟨i, _, e⟩ := mem_itL.mp hx
    exact List.mem_range.mpr (e ▸ it_lt T hk i))
  rw [len_itL, List.length_range] at h
  exact h
theorem Run.step {F : List (List Nat)} {k m : Nat} (r : Run n s F k m) (h : ¬ ((∃ l ∈ F, it s m k ∈ l) ∨ it s m k ∈ itL s m k)) : Run n s F k (m + 1) := by
  refine ⟨fun i hi => ?_, ?_⟩
  · rcases Nat.lt_or_ge i m with h1 | h1
    · exact r.out i h1
    · have e : i = m := by omega
      rw [e]
      exact fun z => h (.inl z)
  · rw [itL_succ]
    refine List.nodup_append.mpr ⟨r.nd, by simp, fun x hx y hy e => ?_⟩
    rw [List.mem_singleton] at hy
    exact h (.inr (hy ▸ e ▸ hx))
theorem Run.first {F : List (List Nat)} {k m : Nat} (r : Run n s F k m) (hm : m = 0) (h : (∃ l ∈ F, it s m k ∈ l) ∨ it s m k ∈ itL s m k) : ∃ l ∈ F, k ∈ l := by
  subst hm
  rcases h with h | h
  · exact h
  · exact absurd h (by simp [itL])
/-- where the ring ends -/
theorem Run.home (T : Tab2 n p q s t) {F : List (List Nat)} {k m : Nat} (c : Cyc n s k F) (hk : k < n) (r : Run n s F k (m + 1)) (h : (∃ l ∈ F, it s (m + 1) k ∈ l) ∨ it s (m + 1) k ∈ itL s (m + 1) k) : it s (m + 1) k = k := by
  rcases h with ⟨l, hl, hx⟩ | h
  · exact absurd ⟨l, hl, c.inv l hl _ (it_lt T hk m) hx⟩ (r.out m (Nat.lt_succ_self m))
  · obtain ⟨j, hj, e⟩ := mem_itL.mp h
    cases j with
    | zero => exact e.symm
    | succ j =>
      have e2 : it s j k = it s m k := T.si (it_lt T hk j) (it_lt T hk m) e
      have hnd := r.nd
      rw [itL_succ] at hnd
      exact absurd rfl ((List.nodup_append.mp hnd).2.2 (it s m k) (mem_itL.mpr ⟨j, by omega, e2⟩) (it s m k) (by simp))
theorem Cyc.add (T : Tab2 n p q s t) {F : List (List Nat)} {k m : Nat} (c : Cyc n s k F) (hk : k < n) (r : Run n s F k (m + 1)) (h : (∃ l ∈ F, it s (m + 1) k ∈ l) ∨ it s (m + 1) k ∈ itL s (m + 1) k)
    {l : List Nat} (hp : l.Perm (itL s (m + 1) k)) (hs : l.Pairwise (· ≤ ·)) : Cyc n s (k + 1) (F ++ [l]) := by
  have home := r.home T c hk h
  have hmem : ∀ x, x ∈ l ↔ ∃ i, i < m + 1 ∧ it s i k = x := fun x => by rw [hp.mem_iff, mem_itL]
  have kl : k ∈ l := (hmem k).mpr ⟨0, Nat.succ_pos m, rfl⟩
  have out : ∀ x, x ∈ l → ¬ ∃ f ∈ F, x ∈ f := fun x hx => by
    obtain ⟨i, hi, e⟩ := (hmem x).mp hx
    exact e ▸ r.out i hi
  have ge : ∀ x, x ∈ l → k ≤ x := fun x hx => by
    rcases Nat.lt_or_ge x k with z | z
    · exact absurd (c.cov x z) (out x hx)
    · exact z
  have asc : l.Pairwise (· < ·) := asc_of hp r.nd hs
  have hd : l.headD 0 = k := by
    cases hl : l with
    | nil =>
      rw [hl] at kl
      exact absurd kl (by simp)
    | cons a b =>
      show a = k
      have h1 : k ≤ a := ge a (by rw [hl]; exact List.mem_cons_self)
      rw [hl] at kl asc
      rcases List.mem_cons.mp kl with e | e
      · exact e.symm
      · have := (List.pairwise_cons.mp asc).1 k e
        omega
  have sp : ∀ x, x ∈ F ++ [l] → x ∈ F ∨ x = l := fun x hx => by
    rcases List.mem_append.mp hx with h | h
    · exact .inl h
    · exact .inr (List.mem_singleton.mp h)
  have inl : l ∈ F ++ [l] := List.mem_append_right _ (List.mem_singleton.mpr rfl)
  refine ⟨fun x hx => ?_, fun x hx => ?_, fun x hx y hy => ?_, fun x hx => ?_, fun x hx y hy z hzx hzy => ?_, fun x hx y hy => ?_, fun x hx y hy z hz S hS hSy => ?_, fun x hx y hy hsy => ?_, ?_, fun x hx => ?_⟩
  · rcases sp x hx with h | rfl
    · exact c.ne x h
    · exact List.ne_nil_of_mem kl
  · rcases sp x hx with h | rfl
    · exact c.asc x h
    · exact asc
  · rcases sp x hx with h | rfl
    · exact c.sub x h y hy
    · obtain ⟨i, _, e⟩ := (hmem y).mp hy
      exact e ▸ it_lt T hk i
  · rcases Nat.lt_or_ge x k with z | z
    · obtain ⟨f, hf, hx⟩ := c.cov x z
      exact ⟨f, List.mem_append_left _ hf, hx⟩
    · have e : x = k := by omega
      exact ⟨l, inl, e ▸ kl⟩
  · rcases sp x hx with h1 | e1
    · rcases sp y hy with h2 | e2
      · exact c.disj x h1 y h2 z hzx hzy
      · exact absurd ⟨x, h1, hzx⟩ (out z (e2 ▸ hzy))
    · rcases sp y hy with h2 | e2
      · exact absurd ⟨y, h2, hzy⟩ (out z (e1 ▸ hzx))
      · exact e1.trans e2.symm
  · rcases sp x hx with h | rfl
    · exact c.closed x h y hy
    · obtain ⟨i, hi, e⟩ := (hmem y).mp hy
      rcases Nat.lt_or_ge (i + 1) (m + 1) with z | z
      · exact (hmem _).mpr ⟨i + 1, z, by rw [← e] <;> rfl⟩
      · have e2 : i = m := by omega
        refine (hmem _).mpr ⟨0, Nat.succ_pos m, ?_⟩
        rw [← e, e2]
        exact home.symm
  · rcases sp x hx with h | rfl
    · exact c.least x h y hy z hz S hS hSy
    · have all : ∀ i, S (it s i k) ↔ S k := fun i => by
        induction i with
        | zero => exact Iff.rfl
        | succ i ih => exact Iff.trans (hS _ (it_lt T hk i)).symm ih
      obtain ⟨i, _, e1⟩ := (hmem y).mp hy
      obtain ⟨j, _, e2⟩ := (hmem z).mp hz
      rw [← e2]
      rw [← e1] at hSy
      exact (all j).mpr ((all i).mp hSy)
  · rcases sp x hx with h | rfl
    · exact c.inv x h y hy hsy
    · obtain ⟨i, hi, e⟩ := (hmem (s y)).mp hsy
      cases i with
      | zero =>
        have e2 : s (it s m k) = s y := by
          rw [← e]
          exact home
        exact (hmem y).mpr ⟨m, Nat.lt_succ_self m, T.si (it_lt T hk m) hy e2⟩
      | succ i => exact (hmem y).mpr ⟨i, by omega, T.si (it_lt T hk i) hy e⟩
  · refine List.pairwise_append.mpr ⟨c.ord, List.pairwise_singleton _ _, fun a ha b hb => ?_⟩
    rw [List.mem_singleton] at hb
    rw [hb, hd]
    exact c.hd a ha
  · rcases sp x hx with h | rfl
    · exact Nat.lt_succ_of_lt (c.hd x h)
    · rw [hd]
      exact Nat.lt_succ_self k

/-! ### choices -/
def nx (p q : Nat → Nat) (c : List Nat) (x : Nat) : Nat := if c.getD x 0 = 0 then p x else q x
def nxL (n : Nat) (p q : Nat → Nat) (c : List Nat) : List Nat := (List.range n).map (nx p q c)
def Even (L : List (List Nat)) (c : List Nat) : Prop := ∀ l ∈ L, ∀ x ∈ l, ∀ y ∈ l, c.getD x 0 = c.getD y 0
theorem nodup_map_range {f : Nat → Nat} : ((List.range n).map f).Nodup ↔ ∀ x y, x < n → y < n → f x = f y → x = y := by
  constructor
  · intro h x y hx hy e
    refine Classical.byContradiction fun hne => ?_
    have h' := List.pairwise_iff_getElem.mp h
    rcases Nat.lt_or_gt_of_ne hne with z | z
    · exact h' x y (by simpa using hx) (by simpa using hy) z (by simpa using e)
    · exact h' y x (by simpa using hy) (by simpa using hx) z (by simpa using e.symm)
  · intro h
    refine List.pairwise_map.mpr (List.Pairwise.imp_of_mem (fun {a b} ha hb hab e => ?_) List.nodup_range)
    exact hab (h a b (List.mem_range.mp ha) (List.mem_range.mp hb) e)
theorem even_iff (T : Tab2 n p q s t) {L : List (List Nat)} (I : IsTies n s L) {c : List Nat} (hc : ∀ x, c.getD x 0 < 2) : Even L c ↔ (nxL n p q c).Nodup := by
  unfold nxL
  rw [nodup_map_range]
  constructor
  · intro h x y hx hy e
    unfold nx at e
    have tie : ∀ a b, a < n → b < n → c.getD a 0 = 0 → c.getD b 0 ≠ 0 → p a = q b → False := fun a b ha hb h1 h2 e => by
      obtain ⟨l, hl, hal⟩ := I.cover a ha
      have hb' : b ∈ l := by
        rw [T.bound ha hb e]
        exact I.closed l hl a hal
      exact h2 ((h l hl b hb' a hal).trans h1)
    by_cases h1 : c.getD x 0 = 0
    · by_cases h2 : c.getD y 0 = 0
      · rw [if_pos h1, if_pos h2] at e
        exact T.pi x y hx hy e
      · rw [if_pos h1, if_neg h2] at e
        exact (tie x y hx hy h1 h2 e).elim
    · by_cases h2 : c.getD y 0 = 0
      · rw [if_neg h1, if_pos h2] at e
        exact (tie y x hy hx h2 h1 e.symm).elim
      · rw [if_neg h1, if_neg h2] at e
        exact T.qi x y hx hy e
  · intro h l hl x hx y hy
    have fwd : ∀ z, z < n → c.getD z 0 = 0 → c.getD (s z) 0 = 0 := fun z hz e => by
      refine Classical.byContradiction fun hne => ?_
      have e2 := h z (s z) hz (T.sb z hz) (by
        unfold nx
        rw [if_pos e, if_neg hne, T.sf z hz])
      rw [← e2] at hne
      exact hne e
    have inv : ∀ z, z < n → (c.getD z 0 = 0 ↔ c.getD (s z) 0 = 0) := fun z hz => ⟨fwd z hz, fun e => T.back (fun x => c.getD x 0 = 0) fwd hz e⟩
    have l1 := I.least l hl x hx y hy (fun x => c.getD x 0 = 0) inv
    have l2 := I.least l hl y hy x hx (fun x => c.getD x 0 = 0) inv
    have b1 := hc x
    have b2 := hc y
    by_cases e : c.getD x 0 = 0
    · rw [e, l1 e]
    · by_cases e' : c.getD y 0 = 0
      · exact absurd (l2 e') e
      · omega
end

def allC : Nat → List (List Nat)
  | 0 => [[]]
  | k + 1 => ((allC k).map fun r => [r ++ [0], r ++ [1]]).flatten
theorem mem_allC : ∀ {k : Nat} {c : List Nat}, c ∈ allC k ↔ c.length = k ∧ ∀ x ∈ c, x < 2
  | 0, c => by
    show c ∈ [[]] ↔ _
    rw [List.mem_singleton]
    constructor
    · rintro rfl
      exact ⟨rfl, fun x hx => absurd hx (by simp)⟩
    · rintro ⟨h, _⟩
      exact List.eq_nil_of_length_eq_zero h
  | k + 1, c => by
    show c ∈ ((allC k).map fun r => [r ++ [0], r ++ [1]]).flatten ↔ _
    rw [List.mem_flatten]
    constructor
    · rintro ⟨l, hl, hc⟩
      obtain ⟨r, hr, rfl⟩ := List.mem_map.mp hl
      obtain ⟨h1, h2⟩ := mem_allC.mp hr
      have hc' : c = r ++ [0] ∨ c = r ++ [1] := by simpa using hc
      rcases hc' with rfl | rfl
      · refine ⟨by simp [h1], fun x hx => ?_⟩
        rcases List.mem_append.mp hx with hx | hx
        · exact h2 x hx
        · have : x = 0 := by simpa using hx
          omega
      · refine ⟨by simp [h1], fun x hx => ?_⟩
        rcases List.mem_append.mp hx with hx | hx
        · exact h2 x hx
        · have : x = 1 := by simpa using hx
          omega
    · rintro ⟨h1, h2⟩
      have hne : c ≠ [] := fun e => by
        rw [e] at h1
        exact absurd h1 (by simp)
      refine ⟨[c.dropLast ++ [0], c.dropLast ++ [1]], List.mem_map.mpr ⟨c.dropLast, mem_allC.mpr ⟨by rw [List.length_dropLast, h1]; rfl, fun x hx => h2 x (List.dropLast_subset c hx)⟩, rfl⟩, ?_⟩
      have hb := h2 _ (List.getLast_mem hne)
      have e := List.dropLast_concat_getLast hne
      have hz : c.getLast hne = 0 ∨ c.getLast hne = 1 := by omega
      rcases hz with z | z
      · rw [z] at e
        rw [← e]
        simp
      · rw [z] at e
        rw [← e]
        simp
theorem length_allC : ∀ k, (allC k).length = 2 ^ k
  | 0 => rfl
  | k + 1 => by
    show (((allC k).map fun r => [r ++ [0], r ++ [1]]).flatten).length = _
    have h : ∀ l : List (List Nat), ((l.map fun r => [r ++ [0], r ++ [1]]).flatten).length = 2 * l.length := fun l => by
      induction l with
      | nil => rfl
      | cons a l ih =>
        rw [List.map_cons, List.flatten_cons, List.length_append, ih]
        show 2 + _ = 2 * (l.length + 1)
        omega
    rw [h, length_allC k, Nat.pow_succ]
    omega
theorem nodup_allC : ∀ k, (allC k).Nodup
  | 0 => by show ([[]] : List (List Nat)).Nodup; simp
  | k + 1 => by
    show (((allC k).map fun r => [r ++ [0], r ++ [1]]).flatten).Nodup
    have h : ∀ l : List (List Nat), l.Nodup → ((l.map fun r => [r ++ [0], r ++ [1]]).flatten).Nodup := fun l => by
      induction l with
      | nil => intro _; exact List.nodup_nil
      | cons a l ih =>
        intro hn
        have hn' := List.nodup_cons.mp hn
        rw [List.map_cons, List.flatten_cons]
        refine List.nodup_append.mpr ⟨by simp, ih hn'.2, fun x hx y hy e => ?_⟩
        obtain ⟨m, hm, hy⟩ := List.mem_flatten.mp hy
        obtain ⟨r, hr, rfl⟩ := List.mem_map.mp hm
        have h1 : x.dropLast = a := by
          have : x = a ++ [0] ∨ x = a ++ [1] := by simpa using hx
          rcases this with rfl | rfl <;> simp
        have h2 : y.dropLast = r := by
          have : y = r ++ [0] ∨ y = r ++ [1] := by simpa using hy
          rcases this with rfl | rfl <;> simp
        have : a = r := by rw [← h1, ← h2, e]
        exact hn'.1 (this ▸ hr)
    exact h _ (nodup_allC k)
theorem getD_lt {c : List Nat} (h : ∀ x ∈ c, x < 2) (i : Nat) : c.getD i 0 < 2 := by
  rw [List.getD_eq_getElem?_getD]
  cases e : c[i]? with
  | none => exact Nat.succ_pos 1
  | some v => exact h v (List.mem_of_getElem? e)
theorem getD_ext {c d : List Nat} (hl : c.length = d.length) (h : ∀ x, x < c.length → c.getD x 0 = d.getD x 0) : c = d := by
  apply List.ext_getElem hl
  intro i h1 h2
  have e := h i h1
  rw [List.getD_eq_getElem?_getD, List.getD_eq_getElem?_getD, List.getElem?_eq_getElem h1, List.getElem?_eq_getElem h2] at e
  exact e
section
variable {n : Nat} {s : Nat → Nat} {L : List (List Nat)}
theorem IsTies.nodup (I : IsTies n s L) : L.Nodup := List.Pairwise.imp (fun {a b} h e => by rw [e] at h; omega) I.ord
theorem head_mem {l : List Nat} (h : l ≠ []) : l.headD 0 ∈ l := by
  cases l with
  | nil => exact absurd rfl h
  | cons a l => exact List.mem_cons_self
/-- how many choices are the same throughout each tie -/
theorem count_even (I : IsTies n s L) (f : List Nat → Bool) (hf : ∀ c ∈ allC n, f c = true ↔ Even L c) : ((allC n).filter f).length = 2 ^ L.length := by
  have hg : ∀ c, c ∈ (allC n).filter f ↔ c ∈ allC n ∧ Even L c := fun c => by
    rw [List.mem_filter]
    exact and_congr_right fun h => hf c h
  have up : ((allC n).filter f).length ≤ (allC L.length).length := by
    have hnd : (((allC n).filter f).map fun c => L.map fun l => c.getD (l.headD 0) 0).Nodup := by
      refine List.pairwise_map.mpr (List.Pairwise.imp_of_mem (fun {a b} ha hb hab e => ?_) ((nodup_allC n).filter f))
      have ha' := (hg a).mp ha
      have hb' := (hg b).mp hb
      have hla := (mem_allC.mp ha'.1).1
      have hlb := (mem_allC.mp hb'.1).1
      refine hab (getD_ext (hla.trans hlb.symm) fun x hx => ?_)
      rw [hla] at hx
      obtain ⟨l, hl, hxl⟩ := I.cover x hx
      have hh := head_mem (I.ne l hl)
      have e2 := List.map_inj_left.mp e l hl
      rw [ha'.2 l hl x hxl _ hh, hb'.2 l hl x hxl _ hh]
      exact e2
    have h := len_le_of_sub hnd (m := allC L.length) fun d hd => by
      obtain ⟨c, hc, rfl⟩ := List.mem_map.mp hd
      have hc' := mem_allC.mp ((hg c).mp hc).1
      refine mem_allC.mpr ⟨List.length_map .., fun x hx => ?_⟩
      obtain ⟨l, _, rfl⟩ := List.mem_map.mp hx
      exact getD_lt hc'.2 _
    rw [List.length_map] at h
    exact h
  have dn : (allC L.length).length ≤ ((allC n).filter f).length := by
    have h := len_le_of_sub (nodup_allC L.length) (m := ((allC n).filter f).map fun c => L.map fun l => c.getD (l.headD 0) 0) fun d hd => by
      have hd' := mem_allC.mp hd
      have idx : ∀ (i : Nat) (hi : i < L.length) (x : Nat), x ∈ L[i] → L.findIdx (fun l => l.contains x) = i := fun i hi x hx => by
        have hex : ∃ l ∈ L, l.contains x = true := ⟨L[i], List.getElem_mem hi, List.contains_iff_mem.mpr hx⟩
        have hlt := List.findIdx_lt_length_of_exists hex
        have hc : (L[L.findIdx (fun l => l.contains x)]'hlt).contains x = true := List.findIdx_getElem (w := hlt)
        have e := I.disj _ (List.getElem_mem hlt) _ (List.getElem_mem hi) x (List.contains_iff_mem.mp hc) hx
        exact (List.getElem_inj I.nodup).mp e
      have hv : ∀ x, x < n → ((List.range n).map fun x => d.getD (L.findIdx (fun l => l.contains x)) 0).getD x 0 = d.getD (L.findIdx (fun l => l.contains x)) 0 := fun x hx => by
        rw [List.getD_eq_getElem?_getD, List.getElem?_map, List.getElem?_range hx] <;> rfl
      refine List.mem_map.mpr ⟨(List.range n).map fun x => d.getD (L.findIdx (fun l => l.contains x)) 0, (hg _).mpr ⟨mem_allC.mpr ⟨by rw [List.length_map, List.length_range], fun x hx => ?_⟩, fun l hl x hx y hy => ?_⟩, ?_⟩
      · obtain ⟨z, _, rfl⟩ := List.mem_map.mp hx
        exact getD_lt hd'.2 _
      · obtain ⟨i, hi, rfl⟩ := List.mem_iff_getElem.mp hl
        rw [hv x (I.sub _ hl x hx), hv y (I.sub _ hl y hy), idx i hi x hx, idx i hi y hy]
      · refine getD_ext (by rw [List.length_map, hd'.1]) fun i hi => ?_
        rw [List.length_map] at hi
        have hl := List.getElem_mem hi
        have hh := head_mem (I.ne _ hl)
        rw [List.getD_eq_getElem?_getD, List.getElem?_map, List.getElem?_eq_getElem hi]
        show ((List.range n).map fun x => d.getD (L.findIdx (fun l => l.contains x)) 0).getD (L[i].headD 0) 0 = _
        rw [hv _ (I.sub _ hl _ hh), idx i hi _ hh]
    rw [List.length_map] at h
    exact h
  rw [length_allC] at up dn
  omega
end
end RgM
/-! enumerate(tuple) -/
namespace RgR
open PySem PySem.Spec PyProof.Rows L2
section
variable {prog : Program} {w : World} {A : Around} {E : Value → Shared → Prop} {s : Shared}
/-- enumerate.__new__ with what begins, the count not given -/
theorem meets_enum1 {v : Value} {o : Obj} {H : Heap → Prop} (B : Begins v o H) :
    Meets (Builtin.«enumerate.__new__» ⟨[.type "enumerate", v], []⟩) (fun _ R s => H s.heap ∧
      R (.ok (.ret (.ref (s.heap.push o).objs.size))) { s with heap := (s.heap.push o).push { cls := .type "enumerate", data := .fields #[.none, .bool false, .ref s.heap.objs.size, rawInt 0, .none, .none] } }) :=
  .of_wp fun prog w A R s h => by
    obtain ⟨hp, g, d, tk, os⟩ := s; obtain ⟨h1, h⟩ := h
    have hsub := sub_enumerate
    have q1 : ∀ {A' : Around} {E : Value → Shared → Prop} {Q : Value → Shared → Prop}, Q (.ref hp.objs.size) ⟨hp.push o, g, d, tk, os⟩ → wpAny (model prog w) A' (pyIter v) Q E ⟨hp, g, d, tk, os⟩ :=
      fun q => B.iter prog w _ _ ⟨hp, g, d, tk, os⟩ _ h1 q
    wp_walk using q1
    refine wpAny_stack_any fun st => wpAny_pure ?_
    split
    · rename_i c _ _ _ _ _
      cases (c == Value.type "enumerate")
      · wp_walk using q1
        exact ⟨_, rfl, h⟩
      · wp_walk using q1
        exact ⟨_, rfl, h⟩
    · wp_walk using q1
      exact ⟨_, rfl, h⟩
theorem call_enum1 {v : Value} {o : Obj} {H : Heap → Prop} {Q : Value → Shared → Prop} (B : Begins v o H) (h1 : H s.heap)
    (h : ∀ h', IsEnum h' (s.heap.objs.size + 1) s.heap.objs.size 0 .none → h'.get? s.heap.objs.size = some o → h'.objs.size = s.heap.objs.size + 2 →
      (∀ b o, s.heap.get? b = some o → h'.get? b = some o) → Q (.ref (s.heap.objs.size + 1)) { s with heap := h' }) :
    wpAny (model prog w) A (call (.type "enumerate") [v]) Q E s := by
  refine callType_new F.called_enumerate (by decide) (F.typeCall_enumerate_1 _) (F.newCall_enumerate_1 _) (fun obj => F.args_object_init_2 obj _) F.entry_enumerate_new
    (meets_enum1 B) ⟨h1, ?_⟩
  have hz : (s.heap.push o).objs.size = s.heap.objs.size + 1 := Heap.size_push ..
  show _ ∧ _
  rw [hz]
  have he : IsEnum ((s.heap.push o).push { cls := .type "enumerate", data := .fields #[.none, .bool false, .ref s.heap.objs.size, rawInt 0, .none, .none] }) (s.heap.objs.size + 1) s.heap.objs.size 0 .none := by
    have := Heap.get?_push_size (s.heap.push o) (o := { cls := .type "enumerate", data := .fields #[.none, .bool false, .ref s.heap.objs.size, rawInt 0, .none, .none] }) rfl
    rw [hz] at this; exact this
  refine ⟨⟨_, he, rfl⟩, h _ he (Heap.get?_push_of_some _ (Heap.get?_push_size _ B.free)) (by rw [Heap.size_push, hz]) fun b o x => Heap.get?_push_of_some _ (Heap.get?_push_of_some _ x)⟩
end
section
variable {prog : Program} {w : World} {A : Around} {E : Value → Shared → Prop} {s : Shared}
theorem enumT_end {e it l : Addr} {i : Nat} {items : Array Value} {old : Value} {Q : Option Value → Shared → Prop} (hh : A.handled = none)
    (he : IsEnum s.heap e it i old) (hit : s.heap.IsTupleIter it l i) (hl : s.heap.IsTuple l items) (hx : items[i]? = none)
    (hQ : ∀ h', Heap.ExtBut it s.heap h' → Q none { s with heap := h' }) : wpAny (model prog w) A (pyNext (.ref e)) Q E s := by
  have hT : s.TypeIs (.ref e) "enumerate" := ⟨_, he, rfl⟩
  unfold pyNext
  refine wpAny_bind (wpAny_attempt (wpAny_callSpecial?_slot (name := Str.ofString "__next__") hT F.slot_enumerate_next
    (wpAny_call_entry F.slot_enumerate_next hT F.entry_enumerate_next ?_ (F.args_enumerate_next_1 _))))
  show wpAny _ _ (field (.ref e) 2 >>= _) _ _ _
  refine wpAny_bind (wpAny_field he rfl (x := .ref it) rfl ?_)
  refine wpAny_bind (wpAny_nextOf_tuple_end hh hit hl hx fun h' x he' hx' => ?_)
  obtain ⟨o, ho, hc⟩ := hx'
  refine wpAny_bind (wpAny_isInstance (T := "StopIteration") (b := true) ⟨o, ho, hc⟩ isSubtype_stop ?_)
  exact wpAny_pure (hQ _ he')
end
/-- the tuple at a as it stands at each turn, each item in a new pair -/
def IteT (K : PySem.W.Frag) (a : Addr) : It :=
  ⟨fun i H => ∃ (xs : List V) (x : V), SqT K H a xs ∧ xs[i]? = some x, fun i H v H' => ∃ T x, v = .ref T ∧ H T = none ∧ H' = upd H T (.tup [.int (i : Nat), x]) ∧ ∀ xs, SqT K H a xs → xs[i]? = some x, fun i H => ∃ xs : List V, SqT K H a xs ∧ xs.length ≤ i⟩
theorem turn_enumT {P : Program} {w : World} {K : PySem.W.Frag} {elts : List Expr} {kk : Nat} {tpos : Pos} (a e it : Addr) :
    Turn P w K (.Tuple elts kk tpos) (IteT K a) [e, it] e (fun i h => (∃ old, IsEnum h e it ((i : Nat) : Int) old) ∧ h.IsTupleIter it a i ∧ e ≠ it ∧ a ≠ it ∧ e ≠ a) where
  mem := by simp
  obj := fun i h st b hb => by
    obtain ⟨⟨old, he⟩, ⟨o, ho, hc, hd⟩, _⟩ := st
    have e' : b = e ∨ b = it := by simpa using hb
    rcases e' with z | z
    · rw [z]; exact ⟨_, he, fun v q => nomatch q⟩
    · rw [z]; exact ⟨o, ho, fun v q => by rw [hd] at q; cases q⟩
  keep := fun i h h' st k => let ⟨⟨old, he⟩, hi, hne⟩ := st; ⟨⟨old, k e (by simp) _ he⟩, hi.at fun o q => k it (by simp) o q, hne⟩
  item := by
    intro X hP hw hK hc i pins s σ H E I hf st hg
    subst hP hw hK
    obtain ⟨⟨old, he⟩, hit, hne, hai, hea⟩ := st
    obtain ⟨xs, x, hq, hx⟩ := hg
    obtain ⟨its, rv, p, hz⟩ := I.tuple hq
    obtain ⟨u, hu, ru⟩ := rv.get hx
    have hel : e < s.heap.objs.size := Heap.lt_size he
    have hil : it < s.heap.objs.size := by obtain ⟨_, q, _⟩ := hit; exact Heap.lt_size q
    have hx' : its.toArray[i]? = some u := by simpa using hu
    have hlt : i < its.toArray.size := by
      obtain ⟨h1, _⟩ := Array.getElem?_eq_some_iff.mp hx'
      exact h1
    refine wpAny_pyNext_enum_itemD (Draws.tuple (A := X.A.in1) (I.ok.hd hc) it a hai its.toArray) he ⟨hit, p⟩ hlt hne (by simp [hne, hea]) fun y h' tk hy ho hst' hT hsz hk => ?_
    have hyu : y = u := by
      have hy : its.toArray[i]? = some y := hy
      rw [hx'] at hy
      exact (Option.some.inj hy).symm
    subst hyu
    have hit' := hst'.1
    refine ⟨_, rfl, wpAny_letOwnedTupleGo_enum (s := { s with heap := h', toks := tk + 1 }) ho fun h'' he' sb => ?_⟩
    have hT2 : h''.get? s.heap.objs.size = some { cls := .type "tuple", data := .seq #[.int i tk, y] } := (sb.2 _ (Nat.ne_of_gt hel)).trans hT
    have new : ObjOk X.prog X.w (upd H s.heap.objs.size (.tup [.int (i : Nat), x])) h'' s.heap.objs.size (.tup [.int (i : Nat), x]) :=
      ⟨by show 2 ≤ sizeLine; decide, [.int i tk, y], .cons ⟨_, rfl⟩ (.cons ru .nil), ⟨_, hT2, rfl, _, rfl⟩⟩
    have I1 : Inv X pins σ (upd H s.heap.objs.size (.tup [.int (i : Nat), x])) { s with heap := h'', toks := tk + 1 } :=
      I.turnedNew (ch := [e, it]) (fun b ob hb q => (sb.2 b (fun z => hb (by simp [z]))).trans (hk b ob (fun z => hb (by simp [z])) (fun z => hb (by simp [z])) q)) hf (Nat.le_refl _) new
    refine ⟨.ref s.heap.objs.size, _, I1, rfl, ⟨_, x, rfl, I.hok.fresh (Nat.le_refl _), rfl, fun ys hy => by rw [I.tuple_inj hy hq]; exact hx⟩, ⟨⟨y, ?_⟩, hit'.at fun o q => (sb.2 it (Ne.symm hne)).trans q, hne, hai, hea⟩, fun b hb => ?_⟩
    · have e1 : ((i + 1 : Nat) : Int) = (i : Int) + 1 := by omega
      rw [e1]; exact he'
    · have hb' : b < s.heap.objs.size := by
        have e' : b = e ∨ b = it := by simpa using hb
        rcases e' with z | z
        · rw [z]; exact hel
        · rw [z]; exact hil
      rw [upd_ne (Nat.ne_of_lt hb')]
      exact (hf b hb).1
  done := by
    intro X hP hw hK hc i pins s σ H E I hf st hg
    subst hP hw hK
    obtain ⟨⟨old, he⟩, hit, hne, hai, hea⟩ := st
    obtain ⟨xs, hq, hx⟩ := hg
    obtain ⟨its, rv, p, hz⟩ := I.tuple hq
    obtain ⟨f0, f1, f2, f3, f4, f5⟩ := hf it (by simp)
    have hl := rv.length
    exact enumT_end (I.ok.hd hc) he hit p (by simp; omega) fun h' eb => ⟨rfl, I.turned (t' := s.toks) (fun b o hb q => eb b o hb q) f0 f1 f3 f4 f5⟩
  self := fun A i s Q E st h => let ⟨⟨_, he⟩, _⟩ := st; wpAny_pyIter_enum he h
def iEnumT (K : PySem.W.Frag) (ta : TA) : TI := fun σ H R => ta σ H fun vs H1 => ∃ a xs, vs = [.ref a] ∧ SqT K H1 a xs ∧ R (IteT K a) H1
theorem pi_enumT {X : Cx} {e : Expr} {ta : TA} {p pos tpos : Pos} {elts : List Expr} {kk : Nat} (hg : Gl X "enumerate") (hm : X.mg "enumerate" = none) (ha : PA X [e] ta) (hs : starEach [e] X.env = [(false, eval e X.env)] := by rfl) :
    PI X (.Tuple elts kk tpos) (.Call (.Name "enumerate" p) [e] [] pos) (iEnumT X.K ta) := by
  refine ⟨fun pins s σ H R I h => ?_⟩
  refine Call_ (ld_blt I hg hm boot_enumerate (PyProof.Rows.callWith_type1 (thn (ha.run pos pins s σ H _ I h) fun us s1 ⟨vs, H1, I1, r1, q1⟩ => ?_) hs rfl))
  obtain ⟨a, xs, ex, hq, q⟩ := q1
  subst ex
  cases r1 with
  | cons r rr =>
    cases rr
    cases r
    obtain ⟨its, rv, p', hz⟩ := I1.tuple hq
    have hal : a < s1.heap.objs.size := by
      obtain ⟨_, q, _⟩ := id p'
      exact Heap.lt_size q
    refine call_enum1 (begins_tuple a its.toArray) p' fun h' he hit hsz hk => wpAny_pyIter_enum he ?_
    have I2 : Inv X pins σ H1 { s1 with heap := h' } := I1.kept (t' := s1.toks) hk
    refine ⟨s1.heap.objs.size + 1, [s1.heap.objs.size + 1, s1.heap.objs.size], _, _, H1, rfl, I2, turn_enumT a (s1.heap.objs.size + 1) s1.heap.objs.size, ⟨⟨.none, he⟩, ⟨_, hit, rfl, rfl⟩, Nat.succ_ne_self _, Nat.ne_of_lt hal, Ne.symm (Nat.ne_of_lt (Nat.lt_succ_of_lt hal))⟩, fun b hb => ?_, q⟩
    have e' : b = s1.heap.objs.size + 1 ∨ b = s1.heap.objs.size := by simpa using hb
    have hle : s1.heap.objs.size ≤ b := by
      rcases e' with z | z
      · rw [z]; exact Nat.le_add_right _ _
      · rw [z]; exact Nat.le_refl _
    exact I1.fpOk hle (I1.hok.fresh hle)
end RgR
/-! set(list or tuple of ints), len of it -/
namespace RgR
open PySem PySem.Spec PyProof.Rows L2
section
variable {P : Program} {w : World} {A : Around} {E : Value → Shared → Prop} {s : Shared}
set_option maxRecDepth 100000 in
set_option maxHeartbeats 3200000 in
theorem call_set_lstI {l : Addr} {items : Array Value} (ns : List Int) {Q : Value → Shared → Prop} (hh : A.handled = none) (hl : s.heap.IsList l items) (hit : IntsAre items.toList ns) (hb : ns.length + 1 < scanBound)
    (h : ∀ (h' : Heap) (tk c : Nat), SetR w h' s.heap.objs.size (fun j => decide (j ∈ ns)) c → c ≤ ns.length → (∀ b o, s.heap.get? b = some o → h'.get? b = some o) → Q (.ref s.heap.objs.size) { s with heap := h', toks := tk }) :
    wpAny (model P w) A (call (.type "set") [.ref l]) Q E s := by
  have hisz : items.size = ns.length := by
    have q := IntsAre.length hit
    rw [Array.length_toList] at q
    exact q
  obtain ⟨c, tl, hmro⟩ := F.called_set.mro
  have hmade := F.called_set.made
  have hsub := F.called_set.sub
  refine wpAny_call (codeAny_of_tree ?_)
  show wpAny _ _ (callAny (.type "set") _) _ _ _
  refine wpAny_pure ⟨Code.quiet_builtin _ (by decide +kernel), codeAny_builtin F.entry_type_call ?_⟩
  rw [Around.under_plain (weight_type_call_type "set" [.ref l] []) rfl]
  have h1 := F.called_set.notType
  have h2 := F.called_set.canCreate
  have hct := F.typeCall_set_1 (.ref l)
  repeat (any_goals (first | assumption | wp_step))

  refine codeAny_mono (code_set_led1 (.ref l) (E := E) (Q₁ := fun obj s₁ => obj = .ref s.heap.objs.size ∧ s₁ = { s with heap := s.heap.push { cls := .type "set", dict := none, data := .set #[] 0 (.fresh 0 0 (!w.params.followText "set-order")) } }) ⟨rfl, rfl⟩) fun r s₁ hr => ?_
  cases r with
  | error e => exact hr
  | ok fl =>
    cases fl with
    | ret obj =>
      obtain ⟨rfl, rfl⟩ := hr
      have hS : (s.heap.push { cls := .type "set", dict := none, data := .set #[] 0 (.fresh 0 0 (!w.params.followText "set-order")) }).get? s.heap.objs.size = some { cls := .type "set", dict := none, data := .set #[] 0 (.fresh 0 0 (!w.params.followText "set-order")) } := Heap.get?_push_size _ rfl
      have hT : Shared.TypeIs { s with heap := s.heap.push { cls := .type "set", dict := none, data := .set #[] 0 (.fresh 0 0 (!w.params.followText "set-order")) } } (.ref s.heap.objs.size) "set" := ⟨_, hS, rfl⟩
      have hli := F.called_set.init.lookup
      have hbi := F.called_set.init.bind (.ref s.heap.objs.size)
      repeat (any_goals (first | assumption | wp_step))

      refine codeAny_mono (codeAny_call_builtin (R := wants (fun r s₂ => r = .none ∧ ∃ h' tk c, s₂ = { s with heap := h', toks := tk } ∧ SetR w h' s.heap.objs.size (fun j => decide (j ∈ ns)) c ∧ c ≤ ns.length ∧
          (∀ b o, s.heap.get? b = some o → h'.get? b = some o)) E) F.called_set.init.plain F.entry_set_init (check_set_init_1 hT ?_)) fun r₂ s₂ hr₂ => ?_
      · obtain ⟨ol, hol, hcl, nl, hdl⟩ := hl
        obtain ⟨ocls, odict, odata, oslots⟩ := ol
        simp only at hcl hdl
        subst hcl; subst hdl
        have hol' : (s.heap.push { cls := .type "set", dict := none, data := .set #[] 0 (.fresh 0 0 (!w.params.followText "set-order")) }).get? l = some { cls := .type "list", dict := odict, data := .seq items nl, slots := oslots } := Heap.get?_push_of_some _ hol
        have hsls := F.sub_list_set
        have hslf := F.sub_list_frozenset
        have hne : (Value.type "list" == Value.type "dict") = false := by decide
        have hl1 : (s.heap.push { cls := .type "set", dict := none, data := .set #[] 0 (.fresh 0 0 (!w.params.followText "set-order")) }).IsList l items := ⟨_, hol', rfl, nl, rfl⟩
        unfold Builtin.«set.__init__» noKeywords Builtin.Frozenset.updateFrom
        generalize hPI : pyIter = PI
        wp_walk
        subst hPI

        refine wpAny_pyIter_list hl1 ?_
        refine wpAny_bind (wpAny_runValue ?_)
        have hlS : l < s.heap.objs.size := Heap.lt_size hol
        have hh3 : A.in1.in1.in1.handled = none := by simp [hh]
        have hz1 : (s.heap.push { cls := .type "set", dict := none, data := .set #[] 0 (.fresh 0 0 (!w.params.followText "set-order")) }).objs.size = s.heap.objs.size + 1 := Heap.size_push ..
        have hneI : l ≠ (s.heap.push { cls := .type "set", dict := none, data := .set #[] 0 (.fresh 0 0 (!w.params.followText "set-order")) }).objs.size := by
          rw [Heap.size_push]; exact Nat.ne_of_lt (Nat.lt_succ_of_lt hlS)
        have hSf : s.heap.objs.size ∉ [(s.heap.push { cls := .type "set", dict := none, data := .set #[] 0 (.fresh 0 0 (!w.params.followText "set-order")) }).objs.size, l] := by
          rw [Heap.size_push]; simp only [List.mem_cons, List.mem_singleton, List.not_mem_nil, or_false, not_or]
          exact ⟨Nat.ne_of_lt (Nat.lt_succ_self _), Nat.ne_of_gt hlS⟩
        have hval : ∀ (i : Nat) (v : Value), items[i]? = some v → ∃ k t, ns[i]? = some k ∧ v = .int k t := fun i v hv => by
          have hi : i < ns.length := by rw [← hisz]; exact (Array.getElem?_eq_some_iff.mp hv).1
          obtain ⟨t, e⟩ := PyProof.Rows.IntsAre.int_at hit i v (by rw [Array.getElem?_toList]; exact hv)
          refine ⟨ns[i], t, List.getElem?_eq_getElem hi, ?_⟩
          rw [e, List.getD_eq_getElem?_getD, List.getElem?_eq_getElem hi] <;> rfl
        refine set_update_ints ((Walks.list hh3 _ l hneI items).toS) s.heap.objs.size
          hSf ns hisz hb hval (items.size - 0) 0 _ (by omega) (Nat.zero_le _)
          ⟨⟨_, Heap.get?_push_size _ rfl, rfl, rfl⟩, (hl1.push _)⟩ ?hS0 ?hR
        case hS0 =>
          have hget : ((s.heap.push { cls := .type "set", dict := none, data := .set #[] 0 (.fresh 0 0 (!w.params.followText "set-order")) }).push { cls := .type "list_iterator", data := .fields #[.ref l, .int 0 0] }).get? s.heap.objs.size
              = some { cls := .type "set", dict := none, data := .set #[] 0 (.fresh 0 0 (!w.params.followText "set-order")) } := Heap.get?_push_of_some _ hS
          exact ⟨0, Nat.le_refl 0, setR_new_at hget⟩
        case hR =>
          intro s' c' hm hc' hS'
          obtain ⟨h', g2, d', tk', os'⟩ := s'
          have eg : g2 = s.gens := hm.gens
          have ed : d' = s.drawn := hm.drawn
          have eo : os' = s.os := hm.os
          subst eg; subst ed; subst eo
          show wpAny _ _ _ _ _ _
          refine wpAny_pure ?_
          show wpAny _ _ (ret Value.none) _ _ _
          rw [hisz] at hc'
          refine wpAny_pure ⟨rfl, h', tk', c', rfl, hS', hc', fun b o e => ?_⟩
          have hb0 : b < s.heap.objs.size := Heap.lt_size e
          have hb1 : b ≠ s.heap.objs.size := Nat.ne_of_lt hb0
          have hb2 : b ≠ (s.heap.push { cls := .type "set", dict := none, data := .set #[] 0 (.fresh 0 0 (!w.params.followText "set-order")) }).objs.size := by
            rw [Heap.size_push]; exact Nat.ne_of_lt (Nat.lt_succ_of_lt hb0)
          exact hm.heap b o (by simp only [List.mem_cons, List.mem_singleton, List.not_mem_nil, or_false, not_or]; exact ⟨hb1, hb2⟩) (Heap.get?_push_of_some _ (Heap.get?_push_of_some _ e))

      · cases r₂ with
        | error e => exact hr₂
        | ok fl₂ =>
          cases fl₂ with
          | ret r =>
            obtain ⟨rfl, h', tk, c', rfl, hS', hc', hk'⟩ := hr₂
            repeat (any_goals (first | assumption | wp_step))
            exact h _ _ _ hS' hc' hk'
          | _ => exact hr₂.elim
    | _ => exact hr.elim

end
/-- what a set of ints is of: as many as there are unlike ones -/
theorem setR_count {w : World} {h : Heap} {a : Addr} {S : Int → Bool} {n : Nat} (R : SetR w h a S n) : ∃ ks : List Int, ks.Nodup ∧ (∀ k, k ∈ ks ↔ S k = true) ∧ ks.length = n := by
  obtain ⟨o, es, ep, t, _, _, _, _, hnd, hm, _, _, hn, _⟩ := R
  exact ⟨es.toList.map keyOf, hnd, fun k => (hm k).symm, by rw [List.length_map, Array.length_toList]; exact hn⟩
section
variable {X : Cx}
/-- set(xs), ints -/
def rSetI (K : PySem.W.Frag) (w : World) : List V → Hp → VK → Prop := fun xs H Q => ∃ (a : Addr) (ns : List Int), xs = [V.ref a] ∧ (SqL K H a (ns.map V.int) ∨ SqT K H a (ns.map V.int)) ∧ ns.length ≤ 4000 ∧
  ∀ (p : Addr) (ks : List Int), H p = none → ks.Nodup → (∀ k, k ∈ ks ↔ k ∈ ns) → Q (.ref p) (upd H p (SetO w p (fun j => decide (j ∈ ns)) ks.length))
theorem cr_setI (hc : X.calm = true) : CallR X (.type "set") (rSetI X.K X.w) := by
  intro pins s σ H xs us Q I r h
  obtain ⟨a, ns, rfl, hq, hl, q⟩ := h
  rw [Vals.ref1 r]
  have fin : ∀ (h' : Heap) (tk c : Nat), SetR X.w h' s.heap.objs.size (fun j => decide (j ∈ ns)) c → c ≤ ns.length → (∀ b o, s.heap.get? b = some o → h'.get? b = some o) → EP X pins σ Q (.ref s.heap.objs.size) { s with heap := h', toks := tk } := fun h' tk c R _ k => by
    obtain ⟨ks, k1, k2, k3⟩ := setR_count R
    refine ⟨.ref _, upd H s.heap.objs.size (SetO X.w s.heap.objs.size (fun j => decide (j ∈ ns)) ks.length), I.laid (t' := tk) k (Nat.le_refl _) (by rw [k3]; exact setO_new R), rfl, q _ ks (I.hok.fresh (Nat.le_refl _)) k1 fun j => ?_⟩
    rw [k2 j, decide_eq_true_eq]
  rcases hq with hq | hq
  · obtain ⟨its, rv, pl, hz⟩ := I.list hq
    exact call_set_lstI ns (I.ok.hd hc) pl.isList (show IntsAre its.toArray.toList ns from ints_of_vals rv) (by unfold scanBound; omega) fin
  · obtain ⟨its, rv, pl, hz⟩ := I.tuple hq
    exact call_set_tupI ns (I.ok.hd hc) pl (show IntsAre its.toArray.toList ns from ints_of_vals rv) (by unfold scanBound; omega) fin
/-- len(set) -/
def rLenSetO (w : World) : List V → Hp → VK → Prop := fun xs H Q => ∃ (a : Addr) (S : Int → Bool) (n : Nat), xs = [V.ref a] ∧ H a = some (SetO w a S n) ∧ Q (.int n) H
theorem cr_lenSet : CallR X (.builtin "len") (rLenSetO X.w) := by
  intro pins s σ H xs us Q I r h
  obtain ⟨a, S, n, rfl, ha, q⟩ := h
  rw [Vals.ref1 r]
  obtain ⟨o, es, ep, t, ho, hex, hd, _, _, _, hb, hf, hn, _⟩ := setO_get I ha
  have hfit : (es.size : Int) < 2 ^ 63 := by
    unfold scanBound at hb
    omega
  exact PySem.call_len_set ho hex hd hf hfit ⟨.int n, H, I.tok _, ⟨_, by rw [hn]⟩, q⟩
end
end RgR
/-! sorted(tuple of ints); sorted(list of tuples of ints) -/
namespace SrtO
open PySem PyProof.Rows Srt
section
variable {prog : Program} {w : World} {A : Around} {E : Value → Shared → Prop} {s : Shared}
theorem collect_tupR {l : Addr} {vs : List Value} {Q : List Value → Shared → Prop} (hl : s.heap.IsTuple l vs.toArray)
    (h : Q vs { s with heap := (s.heap.push (seqObj "list" #[] 0)).update s.heap.objs.size (Obj.mapSeq (· ++ vs.toArray)) }) (hsz : vs.length ≤ sizeLine) :
    wpAny (model prog w) A (collect (.ref l)) Q E s := by
  obtain ⟨o, ho, hc, n, hd⟩ := id hl
  unfold collect
  refine wpAny_bind (wpAny_runValue (codeAny_builtin entry_proto_collect' ?_))
  show wpAny _ _ (do again (.builtin "list.__iadd__" ⟨[← newList [], .ref l], []⟩)) _ _ s
  refine wpAny_bind (wpAny_newList (wpAny_pure ⟨Code.quiet_builtin _ (by decide +kernel), codeAny_builtin entry_list_iadd' ?_⟩))
  show wpAny _ _ (Builtin.List.listExtendWith (.ref s.heap.objs.size) (.ref l) (.ref s.heap.objs.size)) _ _ { s with heap := s.heap.push (seqObj "list" #[] 0) }
  unfold Builtin.List.listExtendWith
  have ho' : (s.heap.push (seqObj "list" #[] 0)).get? l = some o := Heap.get?_push_of_some _ ho
  refine wpAny_bind (wpAny_typeOf (T := "tuple") ⟨o, ho', hc⟩ ?_)
  have ht : (Value.type "tuple" == Value.type "tuple") = true := by rfl
  rw [if_pos (by rw [ht]; simp)]
  refine wpAny_bind (listItems_at ho' hd ?_)
  refine wpAny_bind (listItems_at (xs := #[]) (n := 0) (Heap.get?_push_size _ rfl) rfl ?_)
  rw [if_neg (by simp)]
  refine wpAny_bind (listUpdate_at (xs := #[]) (n := 0) (Heap.get?_push_size _ rfl) rfl ?_ (Nat.zero_le _) (by show (#[] ++ vs.toArray).size ≤ sizeLine + 1; simp only [Array.size_append, List.size_toArray, List.length_nil]; omega))
  refine wpAny_pure ?_
  show wpAny (model prog w) A (do
      let o ← load s.heap.objs.size
      match o.data with
      | .seq xs _ => pure xs.toList
      | _ => unsupported "internal:collect") Q E { s with heap := (s.heap.push (seqObj "list" #[] 0)).update s.heap.objs.size (Obj.mapSeq (· ++ vs.toArray)) }
  refine wpAny_bind (wpAny_load (get?_update_seq (Heap.get?_push_size _ rfl) _) ?_)
  show wpAny _ _ (pure ((#[] : Array Value) ++ vs.toArray).toList) Q E _
  rw [show ((#[] : Array Value) ++ vs.toArray).toList = vs by simp]
  exact wpAny_pure h
theorem sorted_ordT {l : Addr} {vs : List Value} {ltv : Value → Value → Bool} {Q : Value → Shared → Prop} (O : Swo ltv) (hl : s.heap.IsTuple l vs.toArray) (hz : vs.length ≤ sizeLine)
    (hS : 2 ≤ vs.length → ∀ (h₁ : Heap) (a : Addr), h₁.get? a = some (seqObj "list" vs.toArray 0) → (∀ b o, s.heap.get? b = some o → b ≠ a ∧ h₁.get? b = some o) → SortableO prog w A.in1.in1 { s with heap := h₁ } a vs ltv)
    (h : ∀ out : List Value, Srtd ltv out → Stb ltv out vs → Q (.ref (s.heap.objs.size + 1)) { s with heap := sortedAll s.heap vs out.toArray }) :
    wpAny (model prog w) A (call (.builtin "sorted") [.ref l]) Q E s := by
  refine Calls.call_function_entry kind_sorted plain_sorted entry_sorted (args_sorted1 _) ?_
  unfold Builtin.«sorted»
  refine wpAny_bind (m := checkCount "sorted" 1 1 _) (wpAny_pure ?_)
  refine wpAny_bind (collect_tupR hl ?_ hz)
  refine wpAny_bind (wpAny_newList ?_ hz)
  have hsz : ((s.heap.push (seqObj "list" #[] 0)).update s.heap.objs.size (Obj.mapSeq (· ++ vs.toArray))).objs.size = s.heap.objs.size + 1 := by
    rw [Heap.size_update, size_push']
  have hoL : (((s.heap.push (seqObj "list" #[] 0)).update s.heap.objs.size (Obj.mapSeq (· ++ vs.toArray))).push (seqObj "list" vs.toArray 0)).get? (s.heap.objs.size + 1) = some (seqObj "list" vs.toArray 0) := by
    rw [← hsz]; exact Heap.get?_push_size _ rfl
  have keep : ∀ b o, s.heap.get? b = some o → b ≠ s.heap.objs.size + 1 ∧ (((s.heap.push (seqObj "list" #[] 0)).update s.heap.objs.size (Obj.mapSeq (· ++ vs.toArray))).push (seqObj "list" vs.toArray 0)).get? b = some o := fun b o q => by
    have hlt : b < s.heap.objs.size := Heap.lt_size q
    refine ⟨Nat.ne_of_lt (Nat.lt_succ_of_lt hlt), Heap.get?_push_of_some _ ?_⟩
    rw [Heap.get?_update_ne _ _ _ _ (Nat.ne_of_lt hlt)]
    exact Heap.get?_push_of_some _ q
  show wpAny _ _ _ _ _ { s with heap := ((s.heap.push (seqObj "list" #[] 0)).update s.heap.objs.size (Obj.mapSeq (· ++ vs.toArray))).push (seqObj "list" vs.toArray 0) }
  rw [hsz]
  refine wpAny_bind (wpAny_holding (wpAny_call_entry slot_list_sort ⟨_, hoL, rfl⟩ entry_list_sort (list_sort_ord O hoL hz (fun h2 => hS h2 _ _ hoL keep) fun out hs hb => ⟨_, rfl, ?_⟩) (args_list_sort _)))
  exact wpAny_pure ⟨_, rfl, h out hs hb⟩
end
end SrtO
namespace RgR
open PySem PySem.Spec PyProof.Rows L2
section
variable {X : Cx}
/-- sorted(t), t a tuple of ints -/
def rSortedIT (K : PySem.W.Frag) : List V → Hp → VK → Prop := fun vs H Q => ∃ (a : Addr) (ns : List Int), vs = [V.ref a] ∧ SqT K H a (ns.map V.int) ∧
  ∀ (ns' : List Int) (p : Addr), ns'.Perm ns → ns'.Pairwise (· ≤ ·) → H p = none → Q (.ref p) (upd H p (.lst (ns'.map V.int)))
theorem cr_sortedIT : CallR X (.builtin "sorted") (rSortedIT X.K) := by
  intro pins s σ H vs us Q I r h
  obtain ⟨a, ns, rfl, hs, q⟩ := h
  obtain ⟨its, rv, hl, hz⟩ := I.tuple hs
  rw [Vals.ref1 r]
  have hi := rv.ints
  refine SrtO.sorted_ordT SrtO.swo_int hl (by rw [← rv.length]; exact hz) (fun h2 h₁ a' _ _ => SrtO.ints_sortable hi h2) fun out h1 h2 => ?_
  obtain ⟨k1, k2, k3⟩ := SrtO.ints_out hi h1 h2
  obtain ⟨ep, he'⟩ := PyProof.Rows.sortedAll_at s.heap its out.toArray
  have hlen : ((out.map SrtO.iv).map V.int).length ≤ sizeLine := by
    rw [List.length_map, k2.length_eq]
    rw [List.length_map] at hz
    exact hz
  exact ⟨.ref _, upd H (s.heap.objs.size + 1) (.lst ((out.map SrtO.iv).map V.int)), I.laid (t' := s.toks) (fun _ _ => PyProof.Rows.sortedAll_old) (Nat.le_succ _) ⟨hlen, out, ep, vals_of_ints k1, he'⟩, rfl, q _ _ k2 k3 (I.hok.fresh (Nat.le_succ _))⟩

/-! ### tuples of ints, of any lengths but 0 -/
def TupI1 (K : PySem.W.Frag) (H : Hp) (x : V) (b : Int × List Int) : Prop := ∃ t, x = V.ref t ∧ H t = some (.tup ((b.1 :: b.2).map V.int))
def encT1 (b : Int × List Int) : PyData := .tuple ((b.1 :: b.2).map .int)
theorem dpAll_ints {K : PySem.W.Frag} {H : Hp} : ∀ ns : List Int, DpAll K H (ns.map V.int) (ns.map .int)
  | [] => .nil
  | n :: ns => .cons (.int n) (dpAll_ints ns)
theorem each_tups {K : PySem.W.Frag} {H : Hp} : ∀ {xs : List V} {its : List Value} {bs : List (Int × List Int)}, Vals xs its → Paired (TupI1 K H) xs bs → PySem.W.EachIs (fun v b => ∃ x, RelV x v ∧ TupI1 K H x b) its bs
  | _, _, _, .nil, .nil => .nil
  | _, _, _, .cons r rs, .cons p ps => .cons ⟨_, r, p⟩ (each_tups rs ps)
theorem tups_each {K : PySem.W.Frag} {H : Hp} : ∀ {its : List Value} {bs : List (Int × List Int)}, PySem.W.EachIs (fun v b => ∃ x, RelV x v ∧ TupI1 K H x b) its bs → ∃ xs, Vals xs its ∧ Paired (TupI1 K H) xs bs
  | _, _, .nil => ⟨[], .nil, .nil⟩
  | _, _, .cons ⟨x, r, p⟩ t => by
    obtain ⟨xs, h1, h2⟩ := tups_each t
    exact ⟨x :: xs, .cons r h1, .cons p h2⟩
theorem le_tup1 : PySem.W.dataLe false encT1 = fun p q => decide ((p.1 :: p.2) ≤ (q.1 :: q.2)) := by
  funext p q
  show (!PySem.W.dataLt (.tuple ((q.1 :: q.2).map .int)) (.tuple ((p.1 :: p.2).map .int))) = _
  rw [PySem.W.dataLt_tuple]
  show (!PySem.W.rowLt ((q.1 :: q.2).map .int) ((p.1 :: p.2).map .int)) = _
  rw [PySem.W.dataLt_ints]
  by_cases h : (q.1 :: q.2) < (p.1 :: p.2)
  · have h' : ¬ (p.1 :: p.2) ≤ (q.1 :: q.2) := fun r => List.not_lt.mpr r h
    simp only [h, h', decide_true, decide_false, Bool.not_true]
  · have h' : (p.1 :: p.2) ≤ (q.1 :: q.2) := List.not_lt.mp h
    simp only [h, h', decide_true, decide_false, Bool.not_false]
/-- sorted(xs), tuples of ints -/
def rSortedTs (K : PySem.W.Frag) : List V → Hp → VK → Prop := fun vs H Q => ∃ (a : Addr) (xs : List V) (bs : List (Int × List Int)), vs = [V.ref a] ∧ SqL K H a xs ∧ Paired (TupI1 K H) xs bs ∧
  ∀ (ys : List V) (p : Addr), Paired (TupI1 K H) ys (bs.mergeSort fun p q => decide ((p.1 :: p.2) ≤ (q.1 :: q.2))) → H p = none → Q (.ref p) (upd H p (.lst ys))
theorem cr_sortedTs (hu : X.A.units + 64 < cLine) : CallR X (.builtin "sorted") (rSortedTs X.K) := by
  intro pins s σ H vs us Q I r h
  obtain ⟨a, xs, bs, rfl, hs, hp, q⟩ := h
  obtain ⟨its, rv, hl, hz⟩ := I.list hs
  rw [Vals.ref1 r]
  have hlen : bs.length = its.length := by
    have e1 := hp.length
    have e2 := rv.length
    omega
  have hzb : bs.length ≤ sizeLine := by
    have e1 := hp.length
    omega
  refine PySem.W.sorted_data (enc := encT1) (R := fun v b => ∃ x, RelV x v ∧ TupI1 X.K H x b) (bs := bs) (vs := its) hl.isList (each_tups rv hp) ((each_tups rv hp).mono fun v b z => ?_)
    (PySem.W.AllAlike.of fun b b' => by
      show PySem.W.alike (.tuple _) (.tuple _) = true
      rw [PySem.W.alike]
      exact PySem.W.alike_ints _ _) (PySem.W.Sortable.tuples fun b => ⟨.int b.1, b.2.map .int, rfl⟩) hzb (fun b _ => ?_) fun out ho he => ?_
  · obtain ⟨x, rx, t, rfl, ht⟩ := z
    exact Dp.reads I (encT1 b) (.ref t) v (.tup (.inl (.inl ht)) (dpAll_ints _)) rx
  · have e : (encT1 b).depth = 1 := by
      show PyData.depth (.tuple _) = 1
      rw [PyData.depth, PySem.W.depth_ints]
    rw [e]
    omega
  · rw [le_tup1] at he
    obtain ⟨ys, h1, h2⟩ := tups_each he
    obtain ⟨ep, he'⟩ := PyProof.Rows.sortedAll_at s.heap its out.toArray
    have hl2 : ys.length ≤ sizeLine := by
      have e1 := h1.length
      omega
    exact ⟨.ref _, upd H (s.heap.objs.size + 1) (.lst ys), I.laid (t' := s.toks) (fun _ _ => PyProof.Rows.sortedAll_old) (Nat.le_succ _) ⟨hl2, out, ep, h1, he'⟩, rfl, q _ _ h2 (I.hok.fresh (Nat.le_succ _))⟩
end
end RgR
/-! sum(list of lists, []) -/
namespace PySem
open Sem (wp)
section
variable {prog : Program} {w : World} {A : Around} {E : Value → Shared → Prop}
abbrev lstO (vs : List Value) (c : Nat) : Obj := { cls := .type "list", dict := none, data := .seq vs.toArray c, slots := #[] }
theorem rg_args_sum2 (a b : Value) : argsOk "sum" ⟨[a, b], []⟩ := by unfold argsOk; kernel_rfl
theorem rg_sum_loop {R : Result → Shared → Prop} {I l S : Addr} {items : Array Value} {h0 : Heap} {ad : Nat → Addr} {lst : List (List Value)} (hh : A.handled = none)
    (hn : items.size = lst.length) (hval : ∀ (i : Nat) (v : Value), items[i]? = some v → v = Value.ref (ad i)) (hobj : ∀ (i : Nat) (xs : List Value), lst[i]? = some xs → ∃ c, h0.get? (ad i) = some (lstO xs c))
    (hl0 : h0.IsList l items) (hI : h0.objs.size ≤ I) (hS0 : h0.objs.size ≤ S) (hIS : S ≠ I) (hsz : lst.flatten.length ≤ sizeLine) :
    ∀ (k i : Nat) (s : Shared) (t : Addr) (c c' : Nat), lst.length - i = k → i ≤ lst.length → (∀ b o, h0.get? b = some o → s.heap.get? b = some o) → s.heap.IsListIter I l i →
    s.heap.get? S = some (lstO [.ref t] c) → s.heap.get? t = some (lstO (lst.take i).flatten c') → t ≠ I → t ≠ S → (0 < i → h0.objs.size ≤ t) →
    (∀ h' tk t c', (∀ b o, h0.get? b = some o → h'.get? b = some o) → h'.get? t = some (lstO lst.flatten c') → (0 < lst.length → h0.objs.size ≤ t) → R (.ok (.ret (.ref t))) { s with heap := h', toks := tk }) →
    codeAny (model prog w) A (.builtin "sum.loop" ⟨[.ref I, .ref S, rawInt 2, rawInt 0], []⟩) R s := by
  intro k
  induction k with
  | zero =>
    intro i s t c c' hk hi hkeep hit hS hT htI htS hnew hR
    have hin : i = lst.length := by omega
    subst hin
    refine codeAny_builtin F.entry_sum_loop ?_
    rw [Around.under_plainId F.plain_sum_loop _]
    show wpAny _ A.in1 (seqItems? (.ref S) >>= _) _ _ s
    refine wpAny_bind (wpAny_seqItems hS rfl ?_)
    show wpAny _ A.in1 (tryCatch (pyNext (.ref I)) _ >>= _) _ _ s
    refine wpAny_bind (wpAny_tryCatch (wpAny_pyNext_list_end (A := A.in1) hh hit (hl0.at fun o q => hkeep l o q) (by simp [hn]) fun h' hext => ?_))
    rw [List.take_length] at hT
    exact wpAny_pure (hR h' s.toks t c' (fun b o q => hext b o (fun z => Nat.lt_irrefl _ (Nat.lt_of_lt_of_le (z ▸ Heap.lt_size q) hI)) (hkeep b o q)) (hext t _ htI hT) hnew)
  | succ k ih =>
    intro i s t c c' hk hi hkeep hit hS hT htI htS hnew hR
    have hlt : i < lst.length := by omega
    have hlti : i < items.size := by omega
    refine codeAny_builtin F.entry_sum_loop ?_
    rw [Around.under_plainId F.plain_sum_loop _]
    show wpAny _ A.in1 (seqItems? (.ref S) >>= _) _ _ s
    refine wpAny_bind (wpAny_seqItems hS rfl ?_)
    show wpAny _ A.in1 (tryCatch (pyNext (.ref I)) _ >>= _) _ _ s
    refine wpAny_bind (wpAny_tryCatch (wpAny_pyNext_list_item (A := A.in1) hit (hl0.at fun o q => hkeep l o q) (x := items[i]) (by simp [hlti]) fun h' hit' hs' => ?_))
    have ev : items[i] = .ref (ad i) := hval i _ (by simp [hlti])
    rw [ev]
    have hk' : ∀ b o, h0.get? b = some o → h'.get? b = some o := fun b o q => (hs'.2 b (fun z => Nat.lt_irrefl _ (Nat.lt_of_lt_of_le (z ▸ Heap.lt_size q) hI))).trans (hkeep b o q)
    have hT' : h'.get? t = some (lstO (lst.take i).flatten c') := (hs'.2 t htI).trans hT
    have hS' : h'.get? S = some (lstO [.ref t] c) := (hs'.2 S hIS).trans hS
    obtain ⟨c2, hb⟩ := hobj i _ (List.getElem?_eq_getElem hlt)
    have hb' := hk' _ _ hb
    have etake : (lst.take (i + 1)).flatten = (lst.take i).flatten ++ lst[i] := by
      rw [List.take_add_one, List.getElem?_eq_getElem hlt, List.flatten_append]
      show (List.take i lst).flatten ++ (lst[i] ++ []) = _
      rw [List.append_nil]
    have hlen : (lst.take i).flatten.length + lst[i].length ≤ sizeLine := by
      have e1 : lst = lst.take (i + 1) ++ lst.drop (i + 1) := (List.take_append_drop _ _).symm
      have e2 : lst.flatten.length = (lst.take (i + 1)).flatten.length + (lst.drop (i + 1)).flatten.length := by
        rw [← List.length_append, ← List.flatten_append, List.take_append_drop]
      rw [etake, List.length_append] at e2
      omega
    show wpAny _ A.in1 ((holding [Value.ref (ad i)] (binaryOp .Add (.ref t) (.ref (ad i)))).attempt >>= _) _ _ _
    refine wpAny_bind (wpAny_attempt (wpAny_holding (PySem.P.add_list (items := (lst.take i).flatten.toArray) (items2 := lst[i].toArray) hT' hb' ?_ (by simpa using hlen))))
    have hp : h'.objs.size ≠ I := by
      obtain ⟨_, q, _⟩ := id hit'
      exact Nat.ne_of_gt (Heap.lt_size q)
    have hpS : h'.objs.size ≠ S := Nat.ne_of_gt (Heap.lt_size hS')
    have hSlt : S < h'.objs.size := Heap.lt_size hS'
    have hge : h0.objs.size ≤ h'.objs.size := Nat.le_of_lt (Nat.lt_of_le_of_lt hS0 hSlt)
    show wpAny _ A.in1 (updateSeq S (fun _ => #[.ref h'.objs.size]) >>= _) _ _ _
    refine wpAny_bind ?_
    have hS2 : (h'.push { cls := .type "list", data := .seq ((lst.take i).flatten.toArray ++ lst[i].toArray) }).get? S = some (lstO [.ref t] c) := Heap.get?_push_of_some _ hS'
    refine wpAny_updateSeq hS2 rfl ?_
    have hS3 := Heap.get?_update_self (Obj.mapSeq fun _ => #[Value.ref h'.objs.size]) hS2 rfl
    refine wpAny_bind (wpAny_letGo ?_)
    refine wpAny_bind ?_
    refine wpAny_updateSeq hS3 rfl (wpAny_pure ⟨plainId_quiet F.plain_sum_loop _, ?_⟩)
    have hS4 := Heap.get?_update_self (Obj.mapSeq fun _ => #[Value.ref h'.objs.size]) hS3 rfl
    have other : ∀ b o, b ≠ S → (h'.push { cls := .type "list", data := .seq ((lst.take i).flatten.toArray ++ lst[i].toArray) }).get? b = some o →
        (((h'.push { cls := .type "list", data := .seq ((lst.take i).flatten.toArray ++ lst[i].toArray) }).update S (Obj.mapSeq fun _ => #[Value.ref h'.objs.size])).update S (Obj.mapSeq fun _ => #[Value.ref h'.objs.size])).get? b = some o := fun b o hbS q => by
      rw [Heap.get?_update_other _ _ (Ne.symm hbS), Heap.get?_update_other _ _ (Ne.symm hbS)]
      exact q
    refine ih (i + 1) _ h'.objs.size _ 0 (by omega) hlt (fun b o q => other b o (fun z => Nat.lt_irrefl _ (Nat.lt_of_lt_of_le (z ▸ Heap.lt_size q) hS0)) (Heap.get?_push_of_some _ (hk' b o q))) ?_ hS4 ?_ hp hpS (fun _ => hge) fun h'' tk'' t'' c'' k1 k2 k3 => ?_
    · exact hit'.at fun o q => other I o (Ne.symm hIS) (Heap.get?_push_of_some _ q)
    · rw [etake]
      refine other _ _ hpS ?_
      have e := Heap.get?_push_size h' (o := { cls := .type "list", data := .seq ((lst.take i).flatten.toArray ++ lst[i].toArray) }) rfl
      rw [e]
      simp [lstO]
    · exact hR h'' tk'' t'' c'' k1 k2 k3
theorem rg_call_sum {s : Shared} {l b : Addr} {items : Array Value} {ad : Nat → Addr} {lst : List (List Value)} {c0 : Nat} {Q : Value → Shared → Prop} (hh : A.handled = none)
    (hl : s.heap.IsList l items) (hb : s.heap.get? b = some (lstO [] c0)) (hn : items.size = lst.length) (hval : ∀ (i : Nat) (v : Value), items[i]? = some v → v = Value.ref (ad i))
    (hobj : ∀ (i : Nat) (xs : List Value), lst[i]? = some xs → ∃ c, s.heap.get? (ad i) = some (lstO xs c)) (hsz : lst.flatten.length ≤ sizeLine)
    (h : ∀ h' tk t c', (∀ b o, s.heap.get? b = some o → h'.get? b = some o) → h'.get? t = some (lstO lst.flatten c') → (0 < lst.length → s.heap.objs.size ≤ t) → Q (.ref t) { s with heap := h', toks := tk }) :
    wpAny (model prog w) A (call (.builtin "sum") [.ref l, .ref b]) Q E s := by
  refine call_function_tree F.kind_sum F.plain_sum F.entry_sum (rg_args_sum2 _ _) ?_
  unfold Builtin.«sum»
  simp only [List.length_cons, List.length_nil]
  rw [if_neg (by decide)]
  refine wpAny_bind (wpAny_of_eq (show Builtin.Builtins.bindParams "sum" ["start"] 0 ⟨[.ref b], []⟩ = pure [some (.ref b)] from rfl) ?_)
  refine wpAny_bind (wpAny_pyIter_list hl ?_)
  have hb1 : (s.heap.push { cls := .type "list_iterator", data := .fields #[.ref l, .int 0 0] }).get? b = some (lstO [] c0) := Heap.get?_push_of_some _ hb
  refine wpAny_bind (wpAny_pure ?_)
  simp only [List.forIn_cons, List.forIn_nil]
  refine wpAny_bind (wpAny_bind (wpAny_bind (wpAny_isInstance (T := "list") (b := false) ⟨_, hb1, rfl⟩ F.sub_list_str ?_)))
  simp only [Bool.false_eq_true, if_false]
  refine wpAny_pure (wpAny_bind (wpAny_bind (wpAny_isInstance (T := "list") (b := false) ⟨_, hb1, rfl⟩ F.sub_list_bytes ?_)))
  simp only [Bool.false_eq_true, if_false]
  refine wpAny_pure (wpAny_bind (wpAny_bind (wpAny_isInstance (T := "list") (b := false) ⟨_, hb1, rfl⟩ F.sub_list_bytearray ?_)))
  simp only [Bool.false_eq_true, if_false]
  refine wpAny_pure (wpAny_pure ?_)
  refine wpAny_bind (wpAny_newObj_type ?_ (by size_fits))
  have hz : (s.heap.push { cls := .type "list_iterator", data := .fields #[.ref l, .int 0 0] }).objs.size = s.heap.objs.size + 1 := Heap.size_push ..
  have hblt : b < s.heap.objs.size := Heap.lt_size hb
  refine wpAny_pure ⟨plainId_quiet F.plain_sum_loop _, ?_⟩
  refine rg_sum_loop (I := s.heap.objs.size) (l := l) (h0 := s.heap) (lst := lst) hh hn hval hobj hl (Nat.le_refl _) (by rw [hz]; exact Nat.le_succ _) (by rw [hz]; exact Nat.succ_ne_self _) hsz (lst.length) 0 _ b 0 c0 (by omega) (Nat.zero_le _) (fun b o q => Heap.get?_push_of_some _ (Heap.get?_push_of_some _ q)) ?_ ?_ ?_ (Nat.ne_of_lt hblt) (by rw [hz]; exact Nat.ne_of_lt (Nat.lt_succ_of_lt hblt)) (fun z => absurd z (Nat.lt_irrefl _)) fun h' tk t c' k1 k2 k3 => ?_
  · exact ⟨_, Heap.get?_push_of_some _ (Heap.get?_push_size _ rfl), rfl, rfl⟩
  · exact Heap.get?_push_size _ rfl
  · exact Heap.get?_push_of_some _ hb1
  · exact h h' tk t c' k1 k2 k3
end
end PySem
namespace RgR
open PySem PySem.Spec PyProof.Rows L2
section
variable {X : Cx}
theorem refs_it : ∀ {as : List Addr} {us : List Value}, Vals (as.map V.ref) us → us = as.map Value.ref
  | [], _, .nil => rfl
  | a :: as, _, .cons r t => by
    rw [refs_it t]
    cases r
    rfl
/-- the lists at some addresses, by what they hold -/
theorem lists_at {pins : List (Addr × Obj)} {σ : L2.St} {H : Hp} {s : Shared} (I : Inv X pins σ H s) : ∀ {as : List Addr} {yss : List (List V)}, Paired (fun p ys => H p = some (.lst ys)) as yss →
    ∃ uss : List (List Value), uss.length = as.length ∧ Vals yss.flatten uss.flatten ∧ ∀ (i : Nat) (xs : List Value), uss[i]? = some xs → ∃ c, s.heap.get? (as.getD i 0) = some (lstO xs c)
  | [], _, .nil => ⟨[], rfl, .nil, fun i xs h => by simp at h⟩
  | a :: as, ys :: yss, .cons r t => by
    obtain ⟨uss, h1, h2, h3⟩ := lists_at I t
    obtain ⟨z, its, n, rv, hl, e⟩ := I.lstM r
    refine ⟨its :: uss, by simp [h1], rv.append h2, fun i xs h => ?_⟩
    cases i with
    | zero =>
      cases h
      exact ⟨n, e⟩
    | succ i => exact h3 i xs h
def rSumLs (K : PySem.W.Frag) : List V → Hp → VK → Prop := fun vs H Q => ∃ (a b : Addr) (as : List Addr) (yss : List (List V)), vs = [V.ref a, V.ref b] ∧ SqL K H a (as.map V.ref) ∧ H b = some (.lst []) ∧ as ≠ [] ∧
  Paired (fun p ys => H p = some (.lst ys)) as yss ∧ yss.flatten.length ≤ sizeLine ∧ ∀ p, H p = none → Q (.ref p) (upd H p (.lst yss.flatten))
theorem cr_sumLs (hc : X.calm = true) : CallR X (.builtin "sum") (rSumLs X.K) := by
  intro pins s σ H vs us Q I r h
  obtain ⟨a, b, as, yss, rfl, hs, hb, hne, hp, hz, q⟩ := h
  obtain ⟨its, rv, hl, hlz⟩ := I.list hs
  obtain ⟨uss, u1, u2, u3⟩ := lists_at I hp
  obtain ⟨_, itb, nb, rb, hlb, eb⟩ := I.lstM hb
  have eits := refs_it rv
  cases rb
  cases r with
  | cons ra rr =>
    cases ra
    cases rr with
    | cons rb rr =>
      cases rb
      cases rr
      refine rg_call_sum (ad := fun i => as.getD i 0) (lst := uss) (I.ok.hd hc) hl.isList eb (by rw [eits]; simp [u1]) (fun i v hv => ?_) u3 (by rw [← u2.length]; exact hz) fun h' tk t c' k1 k2 k3 => ?_
      · rw [eits] at hv
        have hv' : (as.map Value.ref)[i]? = some v := by simpa using hv
        rw [List.getElem?_map] at hv'
        cases e : as[i]? with
        | none =>
          rw [e] at hv'
          cases hv'
        | some p =>
          rw [e] at hv'
          have e2 : as.getD i 0 = p := by rw [List.getD_eq_getElem?_getD, e] <;> rfl
          rw [e2]
          exact (Option.some.inj hv').symm
      · have hpos : 0 < uss.length := by
          rw [u1]
          exact List.length_pos_iff.mpr hne
        have hle := k3 hpos
        exact ⟨.ref t, upd H t (.lst yss.flatten), I.laid (t' := tk) k1 hle ⟨hz, uss.flatten, c', u2, k2⟩, rfl, q t (I.hok.fresh hle)⟩
end
end RgR
/-! {**d, k: v} -/
namespace PySem
open Sem (wp)
section
variable {prog : Program} {w : World} {K : Type} [DecidableEq K] {knd : KeyKind prog w K} {A : Around} {E : Value → Shared → Prop} {s : Shared}
theorem rg_dictPut {d : Addr} {kvs : List (K × Value)} {k : K} {key v : Value} {Q : Unit → Shared → Prop} (hkey : knd.is k key = true) (hm : s.heap.DictOf knd d kvs)
    (hQ : ∀ h', h'.DictOf knd d (stored kvs k v) → Heap.SameBut d s.heap h' → Q () { s with heap := h' })
    (hsz : kvs.length ≤ sizeLine) :
    wpAny (model prog w) A (dictPut d (knd.hash k) key v) Q E s := by
  obtain ⟨o, es, ep, ho, hc, hd, hk, hp, hn⟩ := hm
  have hes : es.size ≤ sizeLine := by have e1 := hp.length; have e2 : es.toList.length = es.size := by simp
                                      omega
  unfold dictPut
  refine wpAny_bind (wpAny_dictFind_of hkey ho hd hk ?_)
  have hidx : (es.findIdx? fun e => knd.is k e.key) = kvs.findIdx? fun kv => decide (kv.1 = k) := by
    rw [← hp.findIdx k]; obtain ⟨l⟩ := es; simp
  cases hi : es.findIdx? fun e => knd.is k e.key with
  | some i =>
    refine wpAny_updateDict ho hd (hQ _ ⟨_, _, ep, Heap.get?_update_self _ ho (Obj.isFreed_of_dict (Obj.data_mapDict hd _)),
      hc.mapDict _, Obj.data_mapDict hd _, hk.modify _ _, ?_, ?_⟩ (Heap.SameBut.update ..))
    · rw [stored, if_pos (any_of_findIdx_some (hidx ▸ hi))]
      have hl : (es.toList.findIdx? fun e => knd.is k e.key) = some i := by rw [← hi]; obtain ⟨l⟩ := es; simp
      have := hp.modify hn hl v
      obtain ⟨l⟩ := es
      simpa using this
    · rw [stored, if_pos (any_of_findIdx_some (hidx ▸ hi)), keys_map_store]; exact hn
  | none =>
    have hnot : k ∉ kvs.map (·.1) := not_mem_of_findIdx_none (hidx ▸ hi)
    have hany : ¬ (kvs.any fun kv => decide (kv.1 = k)) = true := by
      rw [List.any_eq_true]; rintro ⟨kv, hkv, he⟩
      exact hnot (List.mem_map.mpr ⟨kv, hkv, of_decide_eq_true he⟩)
    refine wpAny_updateDictKeys (hz := hes) ho hd (hQ _ ⟨_, _, ep + 1, Heap.get?_update_self _ ho (Obj.isFreed_of_dict (Obj.data_mapDictKeys hd _)),
      hc.mapDictKeys _, Obj.data_mapDictKeys hd _, hk.push hkey _, ?_, ?_⟩ (Heap.SameBut.update ..))
    · rw [stored, if_neg hany]
      have := hp.append hkey (knd.hash k) v
      obtain ⟨l⟩ := es
      simpa using this
    · rw [stored, if_neg hany, List.map_append, List.nodup_append]
      refine ⟨hn, by simp, ?_⟩
      intro a ha b hb
      simp only [List.map_cons, List.map_nil, List.mem_singleton] at hb
      subst hb
      exact fun e => hnot (e ▸ ha)
theorem range'_next {x : Nat} {rest : List Nat} {i n : Nat} (h : x :: rest = List.range' i (n - i)) : i < n ∧ x = i ∧ rest = List.range' (x + 1) (n - (x + 1)) := by
  rcases Nat.lt_or_ge i n with z | z
  · have e : n - i = (n - (i + 1)) + 1 := by omega
    rw [e, List.range'_succ] at h
    injection h with h1 h2
    exact ⟨z, h1, h1 ▸ h2⟩
  · rw [Nat.sub_eq_zero_of_le z] at h
    simp at h
theorem range'_done {i n : Nat} (h : [] = List.range' i (n - i)) (hi : i ≤ n) : i = n := by
  rcases Nat.lt_or_ge i n with z | z
  · have e : n - i = (n - (i + 1)) + 1 := by omega
    rw [e, List.range'_succ] at h
    cases h
  · exact Nat.le_antisymm hi z
theorem rg_merge {d o : Addr} {kvs more : List (K × Value)} {Q : Unit → Shared → Prop} (hdo : d ≠ o) (hoS : (o == sysModules) = false)
    (hd : s.heap.DictOf knd d kvs) (ho : s.heap.DictOf knd o more)
    (hQ : ∀ h', h'.DictOf knd d (merged kvs more) → h'.DictOf knd o more → Heap.SameBut d s.heap h' → Q () { s with heap := h' })
    (hsz : kvs.length + more.length ≤ sizeLine) :
    wpAny (model prog w) A (mergeMapping d (.ref o) false) Q E s := by
  obtain ⟨od, esd, epd, hod, hcd, hdd, hkd, hpd, hnd⟩ := id hd
  obtain ⟨oo, eso, epo, hoo, hco, hdo', hko, hpo, hno⟩ := id ho
  have hlen : more.length = eso.size := by rw [← hpo.length]; simp
  unfold mergeMapping
  refine wpAny_bind (wpAny_isInstance (T := "dict") (b := true) ho.typeIs F.sub_dict_dict ?_)
  dsimp only
  rw [if_pos rfl]
  refine wpAny_bind (wpAny_specialOf ho.typeIs F.slot_dict_iter.lookup (wpAny_bind (wpAny_pure ?_)))
  rw [beq_self_eq_true]
  dsimp only
  rw [hoS, if_neg Bool.false_ne_true]
  refine wpAny_bind (wpAny_dictEntries hod hdd ?_)
  have keys : ∀ e ∈ eso.toList, ∀ a, e.key ≠ .ref a := fun e he a z => by
    obtain ⟨k, hkey, _⟩ := hko e (Array.mem_toList_iff.mp he)
    have h := knd.byValue k _ hkey
    rw [z] at h
    exact Bool.noConfusion h
  split
  case' isTrue =>
    refine wpAny_bind (wpAny_dictEntries hoo hdo' (wpAny_bind ?_))
    rw [← Array.forIn_toList]
    refine wpAny_of_eq (a := PUnit.unit) (forIn_yield_id _ fun e he c => ?_) ?_
    · have hne := keys e he
      generalize e.key = x at hne ⊢
      cases x <;> first | rfl | exact absurd rfl (hne _)
  all_goals
    refine wpAny_bind (wpAny_dictEntries hoo hdo' (wpAny_bind (wpAny_dictEpoch hoo hdo' (wpAny_bind ?_))))
    rw [List.range_eq_range']
    refine wpAny_forIn_list _ (fun rest _ s' => ∃ g i, s' = { s with heap := g } ∧ rest = List.range' i (eso.size - i) ∧ i ≤ eso.size ∧ Heap.DictOf knd g d (merged kvs (more.take i)) ∧ g.get? o = some oo ∧ Heap.SameBut d s.heap g)
      _ ?turn ?fin _ _ ⟨s.heap, 0, rfl, rfl, Nat.zero_le _, hd, hoo, Heap.SameBut.refl _ _⟩
    case turn =>
      rintro x rest b s' ⟨g, i, rfl, hr, hi, hgd, hgo, hgs⟩
      obtain ⟨hlt, rfl, hrest⟩ := range'_next hr
      refine wpAny_bind (wpAny_dictEntries hgo hdo' ?_)
      have hkv : more[x]? = some (more[x]'(by omega)) := List.getElem?_eq_getElem _
      obtain ⟨hkey, hval⟩ := hpo.get? (e := eso[x]) (by simp [hlt]) hkv
      obtain ⟨k', hkey', hhash⟩ := hko eso[x] (Array.getElem_mem hlt)
      have hk : k' = (more[x]'(by omega)).1 := knd.inj _ _ _ hkey' hkey
      rw [Array.getElem?_eq_getElem hlt]
      dsimp only
      rw [if_neg Bool.false_ne_true, hhash, hval, hk]
      refine wpAny_bind (wpAny_holding (rg_dictPut hkey hgd (fun g2 hg2 hs2 => ?_) ?_))
      · have hgo2 : g2.get? o = some oo := (hs2.2 o (Ne.symm hdo)).trans hgo
        refine wpAny_bind (wpAny_dictEpoch hgo2 hdo' ?_)
        rw [if_neg (by simp)]
        exact wpAny_pure ⟨g2, x + 1, rfl, hrest, hlt, by rw [merged_take_succ kvs more x _ hkv]; exact hg2, hgo2, hgs.trans hs2⟩
      · have e1 := merged_length_le kvs (more.take x)
        have e2 : (more.take x).length ≤ more.length := by rw [List.length_take]; omega
        omega
    case fin =>
      rintro b s' ⟨g, i, rfl, hr, hi, hgd, hgo, hgs⟩
      have hin := range'_done hr hi
      rw [hin, ← hlen, List.take_length] at hgd
      exact wpAny_pure (hQ g hgd ⟨oo, eso, epo, hgo, hco, hdo', hko, hpo, hno⟩ hgs)
end
end PySem
/-! {**d, k: v} -/
namespace RgR
open PySem PySem.Spec PyProof.Rows L2
section
variable {X : Cx}
def tUp (td tk tv : TE) : TE := fun σ H Q => ∀ p, H p = none → td σ (upd H p (.dK [])) fun x H1 => ∃ (a : Addr) (kvs : List (Key × V)), x = .ref a ∧ H1 p = some (.dK []) ∧ a ≠ p ∧ Rd H1 a (.dK kvs) ∧
  ∀ q, (upd H1 p (.dK kvs)) q = none → tk σ (upd (upd H1 p (.dK kvs)) q (.dK [])) fun y H2 => tv σ H2 fun z H3 => ∃ k : Key, y = kV k ∧ H3 q = some (.dK []) ∧ H3 p = some (.dK kvs) ∧ kvs.length < sizeLine ∧
    Q (.ref p) (upd (upd H3 q (.dK [(k, z)])) p (.dK (putK kvs k z)))
theorem pe_up {pos : Pos} {de ke ve : Expr} {td tk tv : TE} (hd : PE X de td) (hk : PE X ke tk) (hv : PE X ve tv) : PE X (.Dict [none, some ke] [de, ve] pos) (tUp td tk tv) := by
  refine ⟨fun pins s σ H Q I h => ?_⟩
  rw [arm_eval_Dict]
  refine wpAny_bind (wpAny_standAt ?_)
  show wpAny _ _ (dictDisplay [(none, do let x ← eval de X.env; standAt pos; pure x), (some (eval ke X.env), do let x ← eval ve X.env; standAt pos; pure x)]) _ _ _
  unfold dictDisplay
  dsimp only
  simp only [List.forIn_cons, List.forIn_nil, List.isEmpty_nil, if_true, pure_bind, bind_pure, bind_assoc, List.nil_append, List.length_cons, List.length_nil]
  have hn := I.hok.fresh (Nat.le_refl s.heap.objs.size)
  have I1 := I.laid (a := s.heap.objs.size) (o := .dK []) (h' := s.heap.push { cls := .type "dict", data := .dict #[] }) (t' := s.toks) (fun _ _ q => Heap.get?_push_of_some _ q) (Nat.le_refl _) (dk_empty s.heap I.big)
  refine wpAny_bind (wpAny_alloc ?_)
  refine wpAny_bind (wpAny_holding (wpAny_bind (thn (hd.run pins _ σ _ _ I1 (h _ hn)) fun u s1 ⟨x, H1, J1, rx, a, kvs, ex, hp1, hap, hr, q⟩ => wpAny_bind (wpAny_standAt (wpAny_pure ?_)))))
  subst ex
  cases rx
  generalize s.heap.objs.size = p at hp1 hap q ⊢
  obtain ⟨zp, hsp, vs0, r0, dp⟩ := dk_of J1.hok hp1
  cases r0
  obtain ⟨za, hsa, vs, ra, da⟩ := dk_rd J1.hok hr
  have hnd : (vs.map (·.1)).Nodup := by
    obtain ⟨_, _, _, _, _, _, _, _, z⟩ := da
    exact z
  refine wpAny_bind (wpAny_onRaise (wpAny_tryCatch (wpAny_onRaise (wpAny_holding (rg_merge (knd := mixKind X.prog X.w) (Ne.symm hap) hsa dp da (fun g dg _ hs => ?_) (by have e := ra.length; rw [List.length_nil]; omega))))))
  rw [merged_nil_of_nodup vs hnd] at dg
  have heg : ∃ q, g.get? p = some q := let ⟨q, _, _, hq, _⟩ := dg; ⟨q, hq⟩
  have J2 := d_write (t' := s1.toks) J1 (by rw [hp1]; exact True.intro) hs heg (dk_new (H' := upd H1 p (.dK kvs)) za hsp ra dg)
  rw [if_neg (by decide)]
  refine wpAny_bind (wpAny_pure ?_)
  refine wpAny_bind (wpAny_pure ?_)
  dsimp only
  rw [if_neg (by simp)]
  refine wpAny_bind ?_
  have hn2 := J2.hok.fresh (Nat.le_refl g.objs.size)
  have hpq : p ≠ g.objs.size := fun e => by
    rw [← e, upd_same] at hn2
    cases hn2
  have J3 := J2.laid (a := g.objs.size) (o := .dK []) (h' := g.push { cls := .type "dict", data := .dict #[] }) (t' := s1.toks) (fun _ _ q => Heap.get?_push_of_some _ q) (Nat.le_refl _) (dk_empty g J2.big)
  refine wpAny_bind (wpAny_holding (wpAny_subDict (knd := mixKind X.prog X.w) (by show 1 ≤ 15; decide) ?_))
  refine evalPairs_cons (thn (hk.run pins _ σ _ _ J3 (q _ hn2)) fun uk s2 ⟨y, H2, K2, ry, q2⟩ => wpAny_bind (thn (hv.run pins s2 σ H2 _ K2 q2) fun uv s3 ⟨z, H3, K3, rz, k, ey, hq3, hp3, hlt, q3⟩ => wpAny_bind (wpAny_standAt (wpAny_pure (evalPairs_nil ?_)))))
  subst ey
  generalize g.objs.size = q0 at hq3 q3 hpq ⊢
  obtain ⟨zq, hsq, vs1, r1, dq⟩ := dk_of K3.hok hq3
  cases r1
  refine ⟨[(k, uv)], ⟨kV_is ry, rfl, trivial⟩, dq, fun g2 dg2 hs2 => ?_⟩
  have heg2 : ∃ q, g2.get? q0 = some q := let ⟨q, _, _, hq, _⟩ := dg2; ⟨q, hq⟩
  have K4 := d_write (t' := s3.toks + [((uk, uv) : Value × Value)].length) K3 (by rw [hq3]; exact True.intro) hs2 heg2 (dk_new (kvs := [(k, z)]) (H' := upd H3 q0 (.dK [(k, z)])) (by show 1 ≤ sizeLine; decide) hsq (show KV [(k, z)] (merged [] [(k, uv)]) from .cons ⟨rfl, rz⟩ .nil) dg2)
  refine wpAny_bind (wpAny_onRaise (wpAny_holding ?_))
  have hp4 : (upd H3 q0 (.dK [(k, z)])) p = some (.dK kvs) := by
    rw [upd_ne hpq]
    exact hp3
  obtain ⟨zp4, hsp4, vs4, r4, dp4⟩ := dk_of K4.hok hp4
  obtain ⟨zq4, hsq4, vs5, r5, dq4⟩ := dk_of K4.hok (a := q0) (kvs := [(k, z)]) upd_same
  refine rg_merge (knd := mixKind X.prog X.w) hpq hsq4 dp4 dq4 (fun g3 dg3 _ hs3 => ?_) ?_
  · have heg3 : ∃ q, g3.get? p = some q := let ⟨q, _, _, hq, _⟩ := dg3; ⟨q, hq⟩
    have hz : (putK kvs k z).length ≤ sizeLine := by
      have e := length_putK kvs k z
      omega
    have K5 := d_write (t' := s3.toks + [((uk, uv) : Value × Value)].length) K4 (by rw [hp4]; exact True.intro) hs3 heg3 (dk_new (kvs := putK kvs k z) (H' := upd (upd H3 q0 (.dK [(k, z)])) p (.dK (putK kvs k z))) hz hsp4 (KV.merge r5 r4) dg3)
    exact wpAny_pure (wpAny_pure ⟨.ref p, _, K5, rfl, q3⟩)
  · have e1 := r4.length
    have e2 := r5.length
    rw [List.length_cons, List.length_nil] at e2
    omega
end
end RgR
/-! What an expression evaluates to, told by relations. -/
namespace Rg
open PySem L2 Evl RgR

/-- how a value stands for a datum, in a heap -/
abbrev Rl (α : Type) := Hp → V → α → Prop
/-- the tuples stay -/
def ExT (H H' : Hp) : Prop := ∀ a xs, H a = some (.tup xs) → H' a = some (.tup xs)
theorem exT_of {H H' : Hp} (e : Ex H H') : ExT H H' := fun a xs h => e a _ h
theorem ExT.refl (H : Hp) : ExT H H := fun _ _ h => h
theorem ExT.trans {H H1 H2 : Hp} (a : ExT H H1) (b : ExT H1 H2) : ExT H H2 := fun x xs h => b x xs (a x xs h)
theorem ExT.put {H H' : Hp} {p : Addr} {o : HO} (e : ExT H H') (h : ∀ xs, H p ≠ some (.tup xs)) : ExT H (upd H' p o) := fun a xs ha => by
  by_cases z : a = p
  · rw [z] at ha
    exact absurd ha (h xs)
  · rw [upd_ne z]
    exact e a xs ha
def Mon {α : Type} (R : Rl α) : Prop := ∀ H H' v x, Ex H H' → R H v x → R H' v x
def MonT {α : Type} (R : Rl α) : Prop := ∀ H H' v x, ExT H H' → R H v x → R H' v x
theorem MonT.m {α : Type} {R : Rl α} (h : MonT R) : Mon R := fun H H' v x e r => h H H' v x (fun a xs q => e a _ q) r
def NatR : Rl Nat := fun _ v n => v = .int (n : Int)
def BlR : Rl Bool := fun _ v b => v = .bl b
def LstR {α : Type} (R : Rl α) : Rl (List α) := fun H v xs => ∃ a vs, v = .ref a ∧ H a = some (.lst vs) ∧ Paired (R H) vs xs
def TupR {α : Type} (R : Rl α) : Rl (List α) := fun H v xs => ∃ a vs, v = .ref a ∧ H a = some (.tup vs) ∧ Paired (R H) vs xs
def PrR {α β : Type} (R : Rl α) (S : Rl β) : Rl (α × β) := fun H v x => ∃ a u w, v = .ref a ∧ H a = some (.tup [u, w]) ∧ R H u x.1 ∧ S H w x.2
theorem monT_nat : MonT NatR := fun _ _ _ _ _ h => h
theorem monT_bl : MonT BlR := fun _ _ _ _ _ h => h
theorem monT_tup {α : Type} {R : Rl α} (h : MonT R) : MonT (TupR R) := fun H H' v x e ⟨a, vs, ev, ha, hp⟩ => ⟨a, vs, ev, e a vs ha, Paired.mono (fun u y r => h H H' u y e r) hp⟩
theorem monT_pr {α β : Type} {R : Rl α} {S : Rl β} (h : MonT R) (k : MonT S) : MonT (PrR R S) := fun H H' v x e ⟨a, u, w, ev, ha, h1, h2⟩ => ⟨a, u, w, ev, e a _ ha, h H H' u _ e h1, k H H' w _ e h2⟩
theorem mon_lst {α : Type} {R : Rl α} (h : Mon R) : Mon (LstR R) := fun H H' v x e ⟨a, vs, ev, ha, hp⟩ => ⟨a, vs, ev, e a _ ha, Paired.mono (fun u y r => h H H' u y e r) hp⟩
abbrev TN : Rl (List Nat) := TupR NatR
abbrev TTN : Rl (List (List Nat)) := TupR (TupR NatR)
abbrev LN : Rl (List Nat) := LstR NatR
abbrev LTN : Rl (List (List Nat)) := LstR (TupR NatR)
theorem mTN : MonT TN := monT_tup monT_nat
theorem mTTN : MonT TTN := monT_tup mTN
theorem mLN : Mon LN := mon_lst monT_nat.m
theorem mLTN : Mon LTN := mon_lst mTN.m

/-! ### paired lists -/
theorem pr_get {α β : Type} {F : α → β → Prop} : ∀ {xs : List α} {ys : List β} {i : Nat} {y : β}, Paired F xs ys → ys[i]? = some y → ∃ x, xs[i]? = some x ∧ F x y
  | _, _, i, y, .nil, h => by simp at h
  | _, _, 0, y, .cons r t, h => by
    cases h
    exact ⟨_, rfl, r⟩
  | _, _, i + 1, y, .cons r t, h => pr_get (i := i) t h
theorem pr_getL {α β : Type} {F : α → β → Prop} : ∀ {xs : List α} {ys : List β} {i : Nat} {x : α}, Paired F xs ys → xs[i]? = some x → ∃ y, ys[i]? = some y ∧ F x y
  | _, _, i, y, .nil, h => by simp at h
  | _, _, 0, y, .cons r t, h => by
    cases h
    exact ⟨_, rfl, r⟩
  | _, _, i + 1, y, .cons r t, h => pr_getL (i := i) t h
theorem pr_app {α β : Type} {F : α → β → Prop} : ∀ {xs xs' : List α} {ys ys' : List β}, Paired F xs ys → Paired F xs' ys' → Paired F (xs ++ xs') (ys ++ ys')
  | _, _, _, _, .nil, h => h
  | _, _, _, _, .cons r t, h => .cons r (pr_app t h)
/-- numbers as ints, as values -/
def iN (ns : List Nat) : List Int := ns.map fun (n : Nat) => (n : Int)
def vN (ns : List Nat) : List V := ns.map fun (n : Nat) => V.int (n : Int)
theorem iN_v (ns : List Nat) : (iN ns).map V.int = vN ns := by
  unfold iN vN
  rw [List.map_map]
  rfl
theorem len_vN (ns : List Nat) : (vN ns).length = ns.length := by
  unfold vN
  rw [List.length_map]
theorem len_iN (ns : List Nat) : (iN ns).length = ns.length := by
  unfold iN
  rw [List.length_map]
theorem get_vN {ns : List Nat} {i n : Nat} (h : ns[i]? = some n) : (vN ns)[i]? = some (.int (n : Int)) := by
  unfold vN
  rw [List.getElem?_map, h]
  rfl
theorem pr_nat {H : Hp} : ∀ {vs : List V} {ns : List Nat}, Paired (NatR H) vs ns → vs = vN ns
  | _, _, .nil => rfl
  | _, _, .cons r t => by
    rw [pr_nat t]
    cases r
    rfl
theorem nat_pr {H : Hp} : ∀ (ns : List Nat), Paired (NatR H) (vN ns) ns
  | [] => .nil
  | n :: ns => .cons rfl (nat_pr ns)
theorem tn_v {H : Hp} {v : V} {ns : List Nat} (h : TN H v ns) : ∃ a, v = .ref a ∧ H a = some (.tup (vN ns)) := by
  obtain ⟨a, vs, rfl, ha, hp⟩ := h
  rw [pr_nat hp] at ha
  exact ⟨a, rfl, ha⟩
theorem ln_v {H : Hp} {v : V} {ns : List Nat} (h : LN H v ns) : ∃ a, v = .ref a ∧ H a = some (.lst (vN ns)) := by
  obtain ⟨a, vs, rfl, ha, hp⟩ := h
  rw [pr_nat hp] at ha
  exact ⟨a, rfl, ha⟩
theorem ln_of {H : Hp} {a : Addr} {ns : List Nat} (h : H a = some (.lst (vN ns))) : LN H (.ref a) ns := ⟨a, _, rfl, h, nat_pr ns⟩
theorem tn_of {H : Hp} {a : Addr} {ns : List Nat} (h : H a = some (.tup (vN ns))) : TN H (.ref a) ns := ⟨a, _, rfl, h, nat_pr ns⟩
theorem iN_to (ms : List Nat) : (iN ms).map Int.toNat = ms := by
  induction ms with
  | nil => rfl
  | cons m ms ih =>
    show Int.toNat (m : Int) :: (iN ms).map Int.toNat = m :: ms
    rw [ih, Int.toNat_natCast]
/-- ints that are all from 0 on -/
theorem iN_perm {l : List Int} {ns : List Nat} (h : l.Perm (iN ns)) : ∃ ms : List Nat, l = iN ms ∧ ms.Perm ns := by
  have hn : ∀ x ∈ l, 0 ≤ x := fun x hx => by
    obtain ⟨n, _, e⟩ := List.mem_map.mp (h.mem_iff.mp hx)
    rw [← e]
    exact Int.natCast_nonneg n
  have hb : ∀ k : List Int, (∀ x ∈ k, 0 ≤ x) → k = iN (k.map Int.toNat) := fun k => by
    induction k with
    | nil => intro _; rfl
    | cons x k ih =>
      intro hk
      show x :: k = ((x.toNat : Nat) : Int) :: iN (k.map Int.toNat)
      rw [← ih fun y hy => hk y (List.mem_cons_of_mem _ hy), Int.toNat_of_nonneg (hk x List.mem_cons_self)]
  refine ⟨l.map Int.toNat, hb l hn, ?_⟩
  have q := h.map Int.toNat
  rw [iN_to] at q
  exact q
theorem iN_le {ms : List Nat} (h : (iN ms).Pairwise (· ≤ ·)) : ms.Pairwise (· ≤ ·) := by
  have q := List.pairwise_map.mp h
  exact q.imp fun {a b} z => Int.ofNat_le.mp z

/-! ### what an expression gives -/
def Er {α : Type} (R : Rl α) (te : TE) (σ : L2.St) (H : Hp) (x : α) : Prop := ∀ H1, Ex H H1 → ∀ Q : VK, (∀ v H2, Ex H1 H2 → R H2 v x → Q v H2) → te σ H1 Q
section
variable {K : PySem.W.Frag} {σ : L2.St} {H H' : Hp} {ta tb te tl : TE} {α β γ : Type} {R : Rl α} {S : Rl β} {U : Rl γ}
theorem Er.mono {x : α} (e : Ex H H') (h : Er R te σ H x) : Er R te σ H' x := fun H1 a Q q => h H1 (e.trans a) Q q
theorem Er.is {x y : α} (h : Er R te σ H x) (e : x = y) : Er R te σ H y := e ▸ h
theorem er_var {i : Nat} {v : V} {x : α} (m : Mon R) (h : σ[i]? = some (some v)) (r : R H v x) : Er R (tVar i) σ H x := fun H1 e Q q => ⟨v, h, q v H1 (Ex.refl H1) (m H H1 v x e r)⟩
theorem er_nat {n : Nat} (h : Ev te σ H (.int (n : Int))) : Er NatR te σ H n := fun H1 e Q q => h H1 e _ fun H2 e2 => q _ H2 e2 rfl
theorem er_bl {b : Bool} (h : Ev te σ H (.bl b)) : Er BlR te σ H b := fun H1 e Q q => h H1 e _ fun H2 e2 => q _ H2 e2 rfl
theorem ev_nat {n : Nat} (h : Er NatR te σ H n) : Ev te σ H (.int (n : Int)) := fun H1 e Q q => h H1 e _ fun v H2 e2 r => by
  cases r
  exact q H2 e2
theorem ev_bl {b : Bool} (h : Er BlR te σ H b) : Ev te σ H (.bl b) := fun H1 e Q q => h H1 e _ fun v H2 e2 r => by
  cases r
  exact q H2 e2
/-- what the arguments give -/
def Ea {α : Type} (R : Rl α) (t : TA) (σ : L2.St) (H : Hp) (xs : List α) : Prop := ∀ H1, Ex H H1 → ∀ Q : List V → Hp → Prop, (∀ vs H2, Ex H1 H2 → Paired (R H2) vs xs → Q vs H2) → t σ H1 Q
theorem ea_nil : Ea R tNil σ H [] := fun H1 _ Q q => q [] H1 (Ex.refl H1) .nil
theorem ea_cons {tr : TA} {x : α} {xs : List α} (m : Mon R) (h : Er R te σ H x) (t : Ea R tr σ H xs) : Ea R (tCons te tr) σ H (x :: xs) := fun H1 e Q q =>
  h H1 e _ fun v H2 e2 r => t H2 (e.trans e2) _ fun vs H3 e3 rs => q (v :: vs) H3 (e2.trans e3) (.cons (m _ _ _ _ e3 r) rs)
theorem er_lst {t : TA} {xs : List α} (m : MonT R) (h : Ea R t σ H xs) (hl : xs.length ≤ 100000) : Er (LstR R) (tLst t) σ H xs := fun H1 e Q q =>
  h H1 e _ fun vs H2 e2 rs => ⟨sz_of (by rw [rs.length]; exact hl), fun p hp => q (.ref p) _ (e2.trans (Ex.new hp)) ⟨p, vs, rfl, upd_same, Paired.mono (fun u y r => m _ _ _ _ (exT_of (Ex.new hp)) r) rs⟩⟩
theorem er_tup {t : TA} {xs : List α} (m : Mon R) (h : Ea R t σ H xs) (hl : xs.length ≤ 100000) : Er (TupR R) (tTup t) σ H xs := fun H1 e Q q =>
  h H1 e _ fun vs H2 e2 rs => ⟨sz_of (by rw [rs.length]; exact hl), fun p hp => q (.ref p) _ (e2.trans (Ex.new hp)) ⟨p, vs, rfl, upd_same, Paired.mono (fun u y r => m _ _ _ _ (Ex.new hp) r) rs⟩⟩
theorem er_pair {x : α} {y : β} (mR : Mon R) (mS : Mon S) (h : Er R ta σ H x) (k : Er S tb σ H y) : Er (PrR R S) (tTup (tCons ta (tCons tb tNil))) σ H (x, y) := fun H1 e Q q =>
  h H1 e _ fun u H2 e2 r => k H2 (e.trans e2) _ fun w H3 e3 s => ⟨sz_of (by show 2 ≤ 100000; decide), fun p hp => q (.ref p) _ ((e2.trans e3).trans (Ex.new hp)) ⟨p, u, w, rfl, upd_same, mR _ _ _ _ (e3.trans (Ex.new hp)) r, mS _ _ _ _ (Ex.new hp) s⟩⟩
/-- an item of a tuple, of a list -/
theorem er_ixT {xs : List α} {i : Nat} {x : α} (m : Mon R) (h : Er (TupR R) ta σ H xs) (hi : Ev tb σ H (.int (i : Int))) (hx : xs[i]? = some x) : Er R (tOp (rIxT K) ta tb) σ H x := fun H1 e Q q =>
  h H1 e _ fun v H2 e2 r => hi H2 (e.trans e2) _ fun H3 e3 => by
    obtain ⟨a, vs, rfl, ha, hp⟩ := r
    obtain ⟨w, hw, rw⟩ := pr_get hp hx
    exact ⟨a, vs, i, w, rfl, rfl, .inl (.inl (e3 a _ ha)), atI_nat hw, q w H3 (e2.trans e3) (m _ _ _ _ e3 rw)⟩
theorem er_ixL {xs : List α} {i : Nat} {x : α} (m : Mon R) (h : Er (LstR R) ta σ H xs) (hi : Ev tb σ H (.int (i : Int))) (hx : xs[i]? = some x) : Er R (tOp (rIxL K) ta tb) σ H x := fun H1 e Q q =>
  h H1 e _ fun v H2 e2 r => hi H2 (e.trans e2) _ fun H3 e3 => by
    obtain ⟨a, vs, rfl, ha, hp⟩ := r
    obtain ⟨w, hw, rw⟩ := pr_get hp hx
    exact ⟨a, vs, i, w, rfl, rfl, .inl (.inl (e3 a _ ha)), atI_nat hw, q w H3 (e2.trans e3) (m _ _ _ _ e3 rw)⟩
/-- len -/
theorem ev_lenT {xs : List α} (h : Er (TupR R) ta σ H xs) : Ev (tCB (rLenS K) (tCons ta tNil)) σ H (.int (xs.length : Int)) := fun H1 e Q q =>
  h H1 e _ fun v H2 e2 r => by
    obtain ⟨a, vs, rfl, ha, hp⟩ := r
    refine ⟨a, vs, rfl, .inr (.inl (.inl ha)), ?_⟩
    rw [hp.length]
    exact q H2 e2
theorem ev_lenL {xs : List α} (h : Er (LstR R) ta σ H xs) : Ev (tCB (rLenS K) (tCons ta tNil)) σ H (.int (xs.length : Int)) := fun H1 e Q q =>
  h H1 e _ fun v H2 e2 r => by
    obtain ⟨a, vs, rfl, ha, hp⟩ := r
    refine ⟨a, vs, rfl, .inl (.inl (.inl ha)), ?_⟩
    rw [hp.length]
    exact q H2 e2
/-- tuple(list), list(tuple) -/
def rTupOf (K : PySem.W.Frag) : List V → Hp → VK → Prop := fun xs H Q => ∃ p ys, xs = [.ref p] ∧ ((SqL K H p ys ∧ ∀ l, H l = none → Q (.ref l) (upd H l (.tup ys))) ∨ (SqT K H p ys ∧ Q (.ref p) H))
theorem er_tupOf {xs : List α} (m : Mon R) (h : Er (LstR R) ta σ H xs) : Er (TupR R) (tCB (rTupOf K) (tCons ta tNil)) σ H xs := fun H1 e Q q =>
  h H1 e _ fun v H2 e2 r => by
    obtain ⟨a, vs, rfl, ha, hp⟩ := r
    exact ⟨a, vs, rfl, .inl ⟨.inl (.inl ha), fun l hl => q (.ref l) _ (e2.trans (Ex.new hl)) ⟨l, vs, rfl, upd_same, Paired.mono (fun u y r => m _ _ _ _ (Ex.new hl) r) hp⟩⟩⟩
/-- a list's or a tuple's sum -/
theorem er_cat {xs ys : List α} (m : MonT R) (h : Er (LstR R) ta σ H xs) (k : Er (LstR R) tb σ H ys) (hl : xs.length + ys.length ≤ 100000) : Er (LstR R) (tOp rCat ta tb) σ H (xs ++ ys) := fun H1 e Q q =>
  h H1 e _ fun v H2 e2 r => k H2 (e.trans e2) _ fun w H3 e3 s => by
    obtain ⟨a, vs, rfl, ha, hp⟩ := r
    obtain ⟨b, ws, rfl, hb, hq⟩ := s
    refine ⟨a, b, vs, ws, rfl, rfl, e3 a _ ha, hb, sz_of (by rw [hp.length, hq.length]; exact hl), fun p np => q (.ref p) _ ((e2.trans e3).trans (Ex.new np)) ⟨p, _, rfl, upd_same, pr_app ?_ ?_⟩⟩
    · exact Paired.mono (fun u y r => m.m _ _ _ _ (e3.trans (Ex.new np)) r) hp
    · exact Paired.mono (fun u y r => m.m _ _ _ _ (Ex.new np) r) hq
theorem er_catT {xs ys : List α} (m : Mon R) (h : Er (TupR R) ta σ H xs) (k : Er (TupR R) tb σ H ys) (hl : xs.length + ys.length ≤ 100000) : Er (TupR R) (tOp (rCatA K) ta tb) σ H (xs ++ ys) := fun H1 e Q q =>
  h H1 e _ fun v H2 e2 r => k H2 (e.trans e2) _ fun w H3 e3 s => by
    obtain ⟨a, vs, rfl, ha, hp⟩ := r
    obtain ⟨b, ws, rfl, hb, hq⟩ := s
    have ha3 := e3 a _ ha
    have hp3 := Paired.mono (fun u y r => m _ _ _ _ e3 r) hp
    refine ⟨a, b, vs, ws, rfl, rfl, .inl (.inl ha3), .inl (.inl hb), sz_of (by rw [hp.length, hq.length]; exact hl), fun z => ?_, fun _ z => ?_, fun _ _ p np => ?_⟩
    · subst z
      cases hp
      exact q (.ref b) H3 (e2.trans e3) ⟨b, ws, rfl, hb, hq⟩
    · subst z
      cases hq
      rw [List.append_nil] at q
      exact q (.ref a) H3 (e2.trans e3) ⟨a, vs, rfl, ha3, hp3⟩
    · refine q (.ref p) _ ((e2.trans e3).trans (Ex.new np)) ⟨p, _, rfl, upd_same, pr_app ?_ ?_⟩
      · exact Paired.mono (fun u y r => m _ _ _ _ (e3.trans (Ex.new np)) r) hp
      · exact Paired.mono (fun u y r => m _ _ _ _ (Ex.new np) r) hq
end
end Rg
/-! Comprehensions and dicts, told by relations. -/
namespace Rg
open PySem L2 Evl RgR
section
variable {K : PySem.W.Frag} {σ : L2.St} {H H' : Hp} {ta tb te tl : TE} {t : TT} {α β γ : Type} {R : Rl α} {S : Rl β} {U : Rl γ}
/-- the new list at D so far, the heap ahead of it B -/
def Iv {β : Type} (B : Hp) (D : Addr) (S : Rl β) (ys : List β) (H : Hp) : Prop := B D = none ∧ Ex B H ∧ ∃ vs, H D = some (.lst vs) ∧ Paired (S H) vs ys
theorem iv_start {B : Hp} {D : Addr} (hD : B D = none) : Iv B D S [] (upd B D (.lst [])) := ⟨hD, Ex.new hD, [], upd_same, .nil⟩
theorem Iv.ext {B : Hp} {D : Addr} {ys : List β} (mS : MonT S) (iv : Iv B D S ys H) (e : Ex H H') : Iv B D S ys H' := by
  obtain ⟨h1, h2, vs, h3, h4⟩ := iv
  exact ⟨h1, h2.trans e, vs, e D _ h3, Paired.mono (fun u y r => mS.m _ _ _ _ e r) h4⟩
theorem Iv.done {B : Hp} {D : Addr} {ys : List β} (iv : Iv B D S ys H) : LstR S H (.ref D) ys := by
  obtain ⟨_, _, vs, h3, h4⟩ := iv
  exact ⟨D, vs, rfl, h3, h4⟩
theorem Iv.app {B : Hp} {D : Addr} {ys : List β} {y : β} {v : V} (mS : MonT S) (iv : Iv B D S ys H) (r : S H v y) (hl : ys.length < 100000) :
    ∃ acc, H D = some (.lst acc) ∧ acc.length < sizeLine ∧ Iv B D S (ys ++ [y]) (upd H D (.lst (acc ++ [v]))) := by
  obtain ⟨h1, h2, vs, h3, h4⟩ := iv
  have ex : ExT H (upd H D (.lst (vs ++ [v]))) := ExT.put (ExT.refl H) fun xs z => by
    rw [h3] at z
    cases z
  exact ⟨vs, h3, sz_lt (by rw [h4.length]; exact hl), h1, Ex.mut h2 h1, vs ++ [v], upd_same, pr_app (Paired.mono (fun u y r => mS _ _ _ _ ex r) h4) (.cons (mS _ _ _ _ ex r) .nil)⟩
theorem lc_turn {B : Hp} {D : Addr} {ys : List β} {y : β} {f : Bool} {P : Hp → Prop} {σ2 : L2.St} (mS : MonT S) (iv : Iv B D S ys H) (hl : ys.length < 100000) (ht : EvT t σ2 H f) (he : f = true → ∀ H1, Ex H H1 → Er S te σ2 H1 y)
    (hP : ∀ H5, Iv B D S (if f = true then ys ++ [y] else ys) H5 → P H5) :
    t σ2 H fun b H3 => if b = true then te σ2 H3 fun y' H4 => ∃ acc, H4 D = some (.lst acc) ∧ acc.length < sizeLine ∧ P (upd H4 D (.lst (acc ++ [y']))) else P H3 := by
  refine ht H (Ex.refl H) _ fun H3 e3 => ?_
  cases hf : f with
  | true =>
    show te σ2 H3 fun y' H4 => ∃ acc, H4 D = some (.lst acc) ∧ acc.length < sizeLine ∧ P (upd H4 D (.lst (acc ++ [y'])))
    refine he hf H3 e3 H3 (Ex.refl H3) _ fun v H4 e4 r => ?_
    obtain ⟨acc, a1, a2, a3⟩ := ((iv.ext mS e3).ext mS e4).app mS r hl
    exact ⟨acc, a1, a2, hP _ (by rw [if_pos hf]; exact a3)⟩
  | false =>
    show P H3
    exact hP H3 (by rw [if_neg (by rw [hf]; exact Bool.false_ne_true)]; exact iv.ext mS e3)
theorem take_fm {xs : List α} {i : Nat} {x : α} (f : α → Bool) (g : α → β) (h : xs[i]? = some x) : ((xs.take (i + 1)).filter f).map g = if f x = true then ((xs.take i).filter f).map g ++ [g x] else ((xs.take i).filter f).map g := by
  rw [List.take_add_one, h]
  show ((xs.take i ++ [x]).filter f).map g = _
  rw [List.filter_append, List.map_append]
  cases hf : f x with
  | true =>
    rw [if_pos rfl, List.filter_cons, if_pos hf]
    rfl
  | false =>
    rw [if_neg Bool.false_ne_true, List.filter_cons, if_neg (by rw [hf]; exact Bool.false_ne_true)]
    exact List.append_nil _
theorem fm_len {xs : List α} {i : Nat} (f : α → Bool) (g : α → β) (hz : xs.length ≤ 40000) : (((xs.take i).filter f).map g).length < 100000 := by
  rw [List.length_map]
  have h1 := List.length_filter_le f (xs.take i)
  have h2 : (xs.take i).length ≤ xs.length := by
    rw [List.length_take]
    exact Nat.min_le_right _ _
  omega
/-- [e for x in xs if t], xs a list -/
theorem er_lcL {xs : List α} {j : Nat} {vs : List Nat} (f : α → Bool) (g : α → β) (mR : Mon R) (mS : MonT S) (h : Er (LstR R) tl σ H xs) (hz : xs.length ≤ 40000) (hw : ∀ x, wipe ((wipe σ vs).set j (some x)) vs = wipe σ vs)
    (ht : ∀ x v H1, Ex H H1 → x ∈ xs → R H1 v x → EvT t ((wipe σ vs).set j (some v)) H1 (f x)) (he : ∀ x v H1, Ex H H1 → x ∈ xs → R H1 v x → f x = true → Er S te ((wipe σ vs).set j (some v)) H1 (g x)) :
    Er (LstR S) (tLc (iList K tl) (gName j) t te vs) σ H ((xs.filter f).map g) := fun H0 e Q q => h H0 e _ fun v B eB r => by
  obtain ⟨a, us, rfl, ha, hp⟩ := r
  refine ⟨a, rfl, ⟨us, .inl (.inl ha)⟩, fun D hD => ?_⟩
  refine lc_list (xs := us) (fun i H' => Iv B D S (((xs.take i).filter f).map g) H') (iv_start hD) (fun i H' _ p => .inl (.inl (p.2.1 a _ ha))) (fun i u H' hi p => ⟨hw u, ?_⟩) fun H' p => ?_
  · obtain ⟨x, hx, rx⟩ := pr_getL hp hi
    have rx' := mR _ _ _ _ p.2.1 rx
    have eH : Ex H H' := (e.trans eB).trans p.2.1
    exact lc_turn mS p (fm_len f g hz) (ht x u H' eH (List.mem_of_getElem? hx) rx') (fun hf H1 e1 => he x u H1 (eH.trans e1) (List.mem_of_getElem? hx) (mR _ _ _ _ e1 rx') hf) fun H5 i5 => by
      rw [take_fm f g hx]
      exact i5
  · rw [hp.length, List.take_length] at p
    exact q (.ref D) H' (eB.trans p.2.1) p.done
/-- xs a tuple -/
theorem er_lcT {xs : List α} {j : Nat} {vs : List Nat} (f : α → Bool) (g : α → β) (mR : Mon R) (mS : MonT S) (h : Er (TupR R) tl σ H xs) (hz : xs.length ≤ 40000) (hw : ∀ x, wipe ((wipe σ vs).set j (some x)) vs = wipe σ vs)
    (ht : ∀ x v H1, Ex H H1 → x ∈ xs → R H1 v x → EvT t ((wipe σ vs).set j (some v)) H1 (f x)) (he : ∀ x v H1, Ex H H1 → x ∈ xs → R H1 v x → f x = true → Er S te ((wipe σ vs).set j (some v)) H1 (g x)) :
    Er (LstR S) (tLc (iTup K tl) (gName j) t te vs) σ H ((xs.filter f).map g) := fun H0 e Q q => h H0 e _ fun v B eB r => by
  obtain ⟨a, us, rfl, ha, hp⟩ := r
  refine ⟨a, rfl, ⟨us, .inl (.inl ha)⟩, fun D hD => ?_⟩
  refine lc_tup (xs := us) (fun i H' => Iv B D S (((xs.take i).filter f).map g) H') (iv_start hD) (fun i H' _ p => .inl (.inl (p.2.1 a _ ha))) (fun i u H' hi p => ⟨hw u, ?_⟩) fun H' p => ?_
  · obtain ⟨x, hx, rx⟩ := pr_getL hp hi
    have rx' := mR _ _ _ _ p.2.1 rx
    have eH : Ex H H' := (e.trans eB).trans p.2.1
    exact lc_turn mS p (fm_len f g hz) (ht x u H' eH (List.mem_of_getElem? hx) rx') (fun hf H1 e1 => he x u H1 (eH.trans e1) (List.mem_of_getElem? hx) (mR _ _ _ _ e1 rx') hf) fun H5 i5 => by
      rw [take_fm f g hx]
      exact i5
  · rw [hp.length, List.take_length] at p
    exact q (.ref D) H' (eB.trans p.2.1) p.done
theorem et_yes : EvT tYes σ H true := fun H1 e Q q => q H1 (Ex.refl H1)
theorem all_fm (xs : List α) (g : α → β) : (xs.filter fun _ => true).map g = xs.map g := by rw [List.filter_eq_self.mpr fun _ _ => rfl]
theorem er_lcL1 {xs : List α} {j : Nat} {vs : List Nat} (g : α → β) (mR : Mon R) (mS : MonT S) (h : Er (LstR R) tl σ H xs) (hz : xs.length ≤ 40000) (hw : ∀ x, wipe ((wipe σ vs).set j (some x)) vs = wipe σ vs)
    (he : ∀ x v H1, Ex H H1 → x ∈ xs → R H1 v x → Er S te ((wipe σ vs).set j (some v)) H1 (g x)) : Er (LstR S) (tLc (iList K tl) (gName j) tYes te vs) σ H (xs.map g) :=
  (er_lcL (fun _ => true) g mR mS h hz hw (fun x v H1 e _ _ => et_yes) fun x v H1 e hx r _ => he x v H1 e hx r).is (all_fm xs g)
theorem er_lcT1 {xs : List α} {j : Nat} {vs : List Nat} (g : α → β) (mR : Mon R) (mS : MonT S) (h : Er (TupR R) tl σ H xs) (hz : xs.length ≤ 40000) (hw : ∀ x, wipe ((wipe σ vs).set j (some x)) vs = wipe σ vs)
    (he : ∀ x v H1, Ex H H1 → x ∈ xs → R H1 v x → Er S te ((wipe σ vs).set j (some v)) H1 (g x)) : Er (LstR S) (tLc (iTup K tl) (gName j) tYes te vs) σ H (xs.map g) :=
  (er_lcT (fun _ => true) g mR mS h hz hw (fun x v H1 e _ _ => et_yes) fun x v H1 e hx r _ => he x v H1 e hx r).is (all_fm xs g)
theorem take_rg {n i : Nat} (g : Nat → β) (h : i < n) : ((List.range n).take (i + 1)).map g = ((List.range n).take i).map g ++ [g i] := by
  rw [List.take_add_one, List.getElem?_range h, List.map_append]
  rfl
theorem rg_len {n i : Nat} (g : Nat → β) (hz : n ≤ 40000) : (((List.range n).take i).map g).length < 100000 := by
  rw [List.length_map, List.length_take, List.length_range]
  omega
/-- over range(n) -/
theorem er_lcR {n : Nat} {j : Nat} {vs : List Nat} (g : Nat → β) (mS : MonT S) (h : Ev ta σ H (.int (n : Int))) (hz : n ≤ 40000) (hw : ∀ x, wipe ((wipe σ vs).set j (some x)) vs = wipe σ vs)
    (he : ∀ (i : Nat) H1, Ex H H1 → i < n → Er S te ((wipe σ vs).set j (some (.int (i : Int)))) H1 (g i)) : Er (LstR S) (tLc (iRng1 (tCons ta tNil)) (gName j) tYes te vs) σ H ((List.range n).map g) := fun H0 e Q q => h H0 e _ fun B eB => by
  refine ⟨(n : Int), rfl, by omega, by omega, fun D hD => ?_⟩
  have en : ((n : Int)).toNat = n := Int.toNat_natCast n
  rw [en]
  refine lc_range (lo := 0) (n := n) (fun i H' => Iv B D S (((List.range n).take i).map g) H') (iv_start hD) (fun i H' hi p => ⟨hw _, ?_⟩) fun H' p => ?_
  · have e0 : (0 : Int) + (i : Int) = (i : Int) := Int.zero_add _
    show tYes ((wipe σ vs).set j (some (.int ((0 : Int) + (i : Int))))) H' _
    rw [e0]
    have eH : Ex H H' := (e.trans eB).trans p.2.1
    exact lc_turn (f := true) mS p (rg_len g hz) et_yes (fun _ H1 e1 => he i H1 (eH.trans e1) hi) fun H5 i5 => by
      rw [take_rg g hi]
      exact i5
  · have z : (List.range n).take n = List.range n := List.take_of_length_le (by rw [List.length_range]; exact Nat.le_refl n)
    rw [z] at p
    exact q (.ref D) H' (eB.trans p.2.1) p.done
/-- over enumerate(t) -/
theorem er_lcE {xs : List α} {i1 i2 : Nat} {vs : List Nat} (g : Nat → α → β) (mR : Mon R) (mS : MonT S) (h : Er (TupR R) tl σ H xs) (hz : xs.length ≤ 40000)
    (hw : ∀ x y, wipe (((wipe σ vs).set i1 (some x)).set i2 (some y)) vs = wipe σ vs)
    (he : ∀ (i : Nat) x v H1, Ex H H1 → xs[i]? = some x → R H1 v x → Er S te (((wipe σ vs).set i1 (some (.int (i : Int)))).set i2 (some v)) H1 (g i x)) :
    Er (LstR S) (tLc (iEnumT K (tCons tl tNil)) (gTup K 2 (gCons (gName i1) (gCons (gName i2) gNil))) tYes te vs) σ H (xs.mapIdx g) := fun H0 e Q q => h H0 e _ fun v B eB r => by
  obtain ⟨a, us, rfl, ha, hp⟩ := r
  refine ⟨a, us, rfl, .inl (.inl ha), fun D hD => ?_⟩
  refine ⟨fun i m H' => m = us.length - i ∧ i ≤ us.length ∧ Iv B D S ((xs.take i).mapIdx g) H', ⟨us.length, rfl, Nat.zero_le _, iv_start hD⟩, ?_⟩
  rintro i m H' ⟨rfl, hi, p⟩
  have ha' := p.2.1 a _ ha
  by_cases hlt : i < us.length
  · refine .inr ⟨⟨us, us[i], .inl (.inl ha'), List.getElem?_eq_getElem hlt⟩, fun H5 => Iv B D S ((xs.take (i + 1)).mapIdx g) H5, fun H5 p5 => ⟨us.length - (i + 1), by omega, rfl, hlt, p5⟩, fun y H5 hy => ?_⟩
    obtain ⟨T, u, rfl, nT, rfl, hu⟩ := hy
    have eu : us[i]? = some u := hu us (.inl (.inl ha'))
    obtain ⟨x, hx, rx⟩ := pr_getL hp eu
    have eT := Ex.new (o := HO.tup [.int (i : Int), u]) nT
    have eH : Ex H (upd H' T (.tup [.int (i : Int), u])) := ((e.trans eB).trans p.2.1).trans eT
    have rx' := mR _ _ _ _ (p.2.1.trans eT) rx
    refine ⟨T, [.int (i : Int), u], rfl, .inl (.inl upd_same), rfl, _, _, rfl, _, _, rfl, rfl, hw _ _, ?_⟩
    have hl : ((xs.take i).mapIdx g).length < 100000 := by
      rw [List.length_mapIdx, List.length_take]
      omega
    exact lc_turn (f := true) mS (p.ext mS eT) hl et_yes (fun _ H1 e1 => he i x u H1 (eH.trans e1) hx (mR _ _ _ _ e1 rx')) fun H6 i6 => by
      have ex : (xs.take (i + 1)).mapIdx g = (xs.take i).mapIdx g ++ [g i x] := by
        rw [List.take_add_one, hx]
        show (xs.take i ++ [x]).mapIdx g = _
        have hli : (xs.take i).length = i := by
          have := (List.getElem?_eq_some_iff.mp hx).1
          rw [List.length_take]
          omega
        rw [List.mapIdx_append, hli]
        show _ = (xs.take i).mapIdx g ++ [g i x]
        simp
      rw [ex]
      exact i6
  · have ei : i = us.length := by omega
    refine .inl ⟨⟨us, .inl (.inl ha'), by omega⟩, ?_⟩
    rw [ei, hp.length, List.take_length] at p
    exact q (.ref D) H' (eB.trans p.2.1) p.done
/-- over zip(t, u) -/
theorem er_lcZ {xs : List α} {ys : List γ} {i1 i2 : Nat} {vs : List Nat} (g : α → γ → β) (mR : Mon R) (mU : Mon U) (mS : MonT S) (h : Er (TupR R) ta σ H xs) (k : Er (TupR U) tb σ H ys) (hl : xs.length = ys.length) (hz : xs.length ≤ 40000)
    (hw : ∀ x y, wipe (((wipe σ vs).set i1 (some x)).set i2 (some y)) vs = wipe σ vs)
    (he : ∀ (i : Nat) x y v w H1, Ex H H1 → xs[i]? = some x → ys[i]? = some y → R H1 v x → U H1 w y → Er S te (((wipe σ vs).set i1 (some v)).set i2 (some w)) H1 (g x y)) :
    Er (LstR S) (tLc (RZ.iZipA K (tCons ta (tCons tb tNil))) (gTup K 2 (gCons (gName i1) (gCons (gName i2) gNil))) tYes te vs) σ H (List.zipWith g xs ys) := fun H0 e Q q => h H0 e _ fun v B1 e1 r => k B1 (e.trans e1) _ fun w B e2 s => by
  obtain ⟨a, us, rfl, ha, hp⟩ := r
  obtain ⟨b, ws, rfl, hb, hq⟩ := s
  have ha2 := e2 a _ ha
  have hp2 := Paired.mono (fun u y r => mR _ _ _ _ e2 r) hp
  refine ⟨a, b, us, ws, rfl, .inr ⟨.inl (.inl ha2), .inl (.inl hb), fun D hD => ?_⟩⟩
  refine ⟨fun i m H' => m = us.length - i ∧ i ≤ us.length ∧ Iv B D S (List.zipWith g (xs.take i) (ys.take i)) H', ⟨us.length, rfl, Nat.zero_le _, iv_start hD⟩, ?_⟩
  rintro i m H' ⟨rfl, hi, p⟩
  have ha' := p.2.1 a _ ha2
  have hb' := p.2.1 b _ hb
  have hlw : us.length = ws.length := by rw [hp.length, hq.length, hl]
  by_cases hlt : i < us.length
  · refine .inr ⟨⟨us, ws, us[i], ws[i]'(by omega), .inl (.inl ha'), .inl (.inl hb'), List.getElem?_eq_getElem hlt, List.getElem?_eq_getElem _⟩, fun H5 => Iv B D S (List.zipWith g (xs.take (i + 1)) (ys.take (i + 1))) H5, fun H5 p5 => ⟨us.length - (i + 1), by omega, rfl, hlt, p5⟩, fun y H5 hy => ?_⟩
    obtain ⟨T, u1, u2, rfl, nT, rfl, hu1, hu2⟩ := hy
    have eu1 : us[i]? = some u1 := hu1 us (.inl (.inl ha'))
    have eu2 : ws[i]? = some u2 := hu2 ws (.inl (.inl hb'))
    obtain ⟨x, hx, rx⟩ := pr_getL hp2 eu1
    obtain ⟨y, hy, ry⟩ := pr_getL hq eu2
    have eT := Ex.new (o := HO.tup [u1, u2]) nT
    have eH : Ex H (upd H' T (.tup [u1, u2])) := (((e.trans e1).trans e2).trans p.2.1).trans eT
    have rx' := mR _ _ _ _ (p.2.1.trans eT) rx
    have ry' := mU _ _ _ _ (p.2.1.trans eT) ry
    refine ⟨T, [u1, u2], rfl, .inl (.inl upd_same), rfl, _, _, rfl, _, _, rfl, rfl, hw _ _, ?_⟩
    have hlen : (List.zipWith g (xs.take i) (ys.take i)).length < 100000 := by
      rw [List.length_zipWith, List.length_take]
      omega
    exact lc_turn (f := true) mS (p.ext mS eT) hlen et_yes (fun _ H1 e1 => he i x y u1 u2 H1 (eH.trans e1) hx hy (mR _ _ _ _ e1 rx') (mU _ _ _ _ e1 ry')) fun H6 i6 => by
      have ex : List.zipWith g (xs.take (i + 1)) (ys.take (i + 1)) = List.zipWith g (xs.take i) (ys.take i) ++ [g x y] := by
        rw [List.take_add_one, List.take_add_one, hx, hy]
        show List.zipWith g (xs.take i ++ [x]) (ys.take i ++ [y]) = _
        rw [List.zipWith_append (by rw [List.length_take, List.length_take, hl])]
        rfl
      rw [ex]
      exact i6
  · have ei : i = us.length := by omega
    refine .inl ⟨⟨us, ws, .inl (.inl ha'), .inl (.inl hb'), .inl (by omega)⟩, ?_⟩
    have h1 : xs.take i = xs := List.take_of_length_le (by rw [ei, hp.length]; exact Nat.le_refl _)
    have h2 : ys.take i = ys := List.take_of_length_le (by rw [ei, hp.length, hl]; exact Nat.le_refl _)
    rw [h1, h2] at p
    exact q (.ref D) H' ((e1.trans e2).trans p.2.1) p.done
end

end Rg
/-! The text by places. -/
namespace Rg
open PySem L2 Evl RgR RgM
def topS (i : Nat) : Stmt := PySem.Challenge.pw_rungonce_k20_whole_ties_of_two_ways.main.body.getD i (.Pass ⟨0, 0, 0, 0⟩)
abbrev s_is_whole : Stmt := topS 7
abbrev N_is_whole : List Str := ["value", "low", "high"]
theorem sc_is_whole : FnScope ["value", "low", "high"] ["value", "low", "high"] (defScope s_is_whole) := ⟨rfl, rfl, rfl, by decide +kernel, rfl, by decide +kernel, by decide +kernel⟩
abbrev s_is_tuple_of : Stmt := topS 8
abbrev N_is_tuple_of : List Str := ["value", "low", "high"]
theorem sc_is_tuple_of : FnScope ["value", "low", "high"] ["value", "low", "high"] (defScope s_is_tuple_of) := ⟨rfl, rfl, rfl, by decide +kernel, rfl, by decide +kernel, by decide +kernel⟩
abbrev s_fits_table : Stmt := topS 12
abbrev N_fits_table : List Str := ["value", "many", "item", "number", "way"]
theorem sc_fits_table : FnScope ["value", "many", "item", "number", "way"] ["value"] (defScope s_fits_table) := ⟨rfl, rfl, rfl, by decide +kernel, rfl, by decide +kernel, by decide +kernel⟩
abbrev s_fits_choice : Stmt := topS 13
abbrev N_fits_choice : List Str := ["table", "value", "way"]
theorem sc_fits_choice : FnScope ["table", "value", "way"] ["table", "value"] (defScope s_fits_choice) := ⟨rfl, rfl, rfl, by decide +kernel, rfl, by decide +kernel, by decide +kernel⟩
abbrev s_need_table : Stmt := topS 14
abbrev N_need_table : List Str := ["value"]
theorem sc_need_table : FnScope ["value"] ["value"] (defScope s_need_table) := ⟨rfl, rfl, rfl, by decide +kernel, rfl, by decide +kernel, by decide +kernel⟩
abbrev s_need_choice : Stmt := topS 15
abbrev N_need_choice : List Str := ["table", "value"]
theorem sc_need_choice : FnScope ["table", "value"] ["table", "value"] (defScope s_need_choice) := ⟨rfl, rfl, rfl, by decide +kernel, rfl, by decide +kernel, by decide +kernel⟩
abbrev s_nexts_by : Stmt := topS 16
abbrev N_nexts_by : List Str := ["table", "choice", "item", "way"]
theorem sc_nexts_by : FnScope ["table", "choice", "item", "way"] ["table", "choice"] (defScope s_nexts_by) := ⟨rfl, rfl, rfl, by decide +kernel, rfl, by decide +kernel, by decide +kernel⟩
abbrev s_meeting_in : Stmt := topS 17
abbrev N_meeting_in : List Str := ["nexts", "ahead", "number", "there"]
theorem sc_meeting_in : FnScope ["nexts", "ahead", "number", "there"] ["nexts"] (defScope s_meeting_in) := ⟨rfl, rfl, rfl, by decide +kernel, rfl, by decide +kernel, by decide +kernel⟩
abbrev s_is_table : Stmt := topS 18
abbrev N_is_table : List Str := ["value"]
theorem sc_is_table : FnScope ["value"] ["value"] (defScope s_is_table) := ⟨rfl, rfl, rfl, by decide +kernel, rfl, by decide +kernel, by decide +kernel⟩
abbrev s_two_that_meet : Stmt := topS 19
abbrev N_two_that_meet : List Str := ["table", "choice"]
theorem sc_two_that_meet : FnScope ["table", "choice"] ["table", "choice"] (defScope s_two_that_meet) := ⟨rfl, rfl, rfl, by decide +kernel, rfl, by decide +kernel, by decide +kernel⟩
abbrev s_need_two : Stmt := topS 21
abbrev N_need_two : List Str := ["value"]
theorem sc_need_two : FnScope ["value"] ["value"] (defScope s_need_two) := ⟨rfl, rfl, rfl, by decide +kernel, rfl, by decide +kernel, by decide +kernel⟩
abbrev s_fits_told : Stmt := topS 22
abbrev N_fits_told : List Str := ["table", "value", "numbers", "pair", "number", "way"]
theorem sc_fits_told : FnScope ["table", "value", "numbers", "pair", "number", "way"] ["table", "value"] (defScope s_fits_told) := ⟨rfl, rfl, rfl, by decide +kernel, rfl, by decide +kernel, by decide +kernel⟩
abbrev s_need_told : Stmt := topS 23
abbrev N_need_told : List Str := ["table", "value"]
theorem sc_need_told : FnScope ["table", "value"] ["table", "value"] (defScope s_need_told) := ⟨rfl, rfl, rfl, by decide +kernel, rfl, by decide +kernel, by decide +kernel⟩
abbrev s_ties_in : Stmt := topS 24
abbrev N_ties_in : List Str := ["two", "back", "found", "met", "start", "tie", "here", "number", "item"]
theorem sc_ties_in : FnScope ["two", "back", "found", "met", "start", "tie", "here", "number", "item"] ["two"] (defScope s_ties_in) := ⟨rfl, rfl, rfl, by decide +kernel, rfl, by decide +kernel, by decide +kernel⟩
abbrev s_apart_in : Stmt := topS 25
abbrev N_apart_in : List Str := ["ties", "told", "homes", "at", "one", "way", "other", "later", "tie", "number"]
theorem sc_apart_in : FnScope ["ties", "told", "homes", "at", "one", "way", "other", "later", "tie", "number"] ["ties", "told"] (defScope s_apart_in) := ⟨rfl, rfl, rfl, by decide +kernel, rfl, by decide +kernel, by decide +kernel⟩
abbrev s_free_in : Stmt := topS 26
abbrev N_free_in : List Str := ["ties", "told", "known", "number", "way", "tie"]
theorem sc_free_in : FnScope ["ties", "told", "known", "number", "way", "tie"] ["ties", "told"] (defScope s_free_in) := ⟨rfl, rfl, rfl, by decide +kernel, rfl, by decide +kernel, by decide +kernel⟩
abbrev s_power : Stmt := topS 27
abbrev N_power : List Str := ["many", "found", "turn"]
theorem sc_power : FnScope ["many", "found", "turn"] ["many"] (defScope s_power) := ⟨rfl, rfl, rfl, by decide +kernel, rfl, by decide +kernel, by decide +kernel⟩
abbrev s_ties_of : Stmt := topS 28
abbrev N_ties_of : List Str := ["two"]
theorem sc_ties_of : FnScope ["two"] ["two"] (defScope s_ties_of) := ⟨rfl, rfl, rfl, by decide +kernel, rfl, by decide +kernel, by decide +kernel⟩
abbrev s_count_two : Stmt := topS 29
abbrev N_count_two : List Str := ["two", "told", "ties"]
theorem sc_count_two : FnScope ["two", "told", "ties"] ["two", "told"] (defScope s_count_two) := ⟨rfl, rfl, rfl, by decide +kernel, rfl, by decide +kernel, by decide +kernel⟩
abbrev s_Lcup : Stmt := topS 31
abbrev N_Lcup : List Str := ["_law_script", "_law_cell"]
theorem sc_Lcup : FnScope ["_law_script", "_law_cell"] ["_law_script"] (defScope s_Lcup) := ⟨rfl, rfl, rfl, by decide +kernel, rfl, by decide +kernel, by decide +kernel⟩
abbrev s_Lroll : Stmt := topS 32
abbrev N_Lroll : List Str := ["_law_cup_here", "_law_many", "_law_found", "_law_deep"]
theorem sc_Lroll : FnScope ["_law_cup_here", "_law_many", "_law_found", "_law_deep"] ["_law_cup_here", "_law_many"] (defScope s_Lroll) := ⟨rfl, rfl, rfl, by decide +kernel, rfl, by decide +kernel, by decide +kernel⟩
abbrev s_Lnexts : Stmt := topS 34
abbrev N_Lnexts : List Str := ["_law_table_here", "_law_choice", "_law_at", "_law_way_here"]
theorem sc_Lnexts : FnScope ["_law_table_here", "_law_choice", "_law_at", "_law_way_here"] ["_law_table_here", "_law_choice"] (defScope s_Lnexts) := ⟨rfl, rfl, rfl, by decide +kernel, rfl, by decide +kernel, by decide +kernel⟩
abbrev s_Lis_one : Stmt := topS 35
abbrev N_Lis_one : List Str := ["_law_nexts_here"]
theorem sc_Lis_one : FnScope ["_law_nexts_here"] ["_law_nexts_here"] (defScope s_Lis_one) := ⟨rfl, rfl, rfl, by decide +kernel, rfl, by decide +kernel, by decide +kernel⟩
abbrev s_Lway : Stmt := topS 36
abbrev N_Lway : List Str := ["_law_cup_here", "_law_many", "_law_found", "_law_at", "_law_to"]
theorem sc_Lway : FnScope ["_law_cup_here", "_law_many", "_law_found", "_law_at", "_law_to"] ["_law_cup_here", "_law_many"] (defScope s_Lway) := ⟨rfl, rfl, rfl, by decide +kernel, rfl, by decide +kernel, by decide +kernel⟩
abbrev s_Ltable : Stmt := topS 37
abbrev N_Ltable : List Str := ["_law_cup_here", "_law_many", "_law_ways", "_law_some_here", "_law_turn", "_law_number", "_law_way_here"]
theorem sc_Ltable : FnScope ["_law_cup_here", "_law_many", "_law_ways", "_law_some_here", "_law_turn", "_law_number", "_law_way_here"] ["_law_cup_here", "_law_many", "_law_ways"] (defScope s_Ltable) := ⟨rfl, rfl, rfl, by decide +kernel, rfl, by decide +kernel, by decide +kernel⟩
abbrev s_Lall : Stmt := topS 39
abbrev N_Lall : List Str := ["_law_many", "_law_ways", "_law_found", "_law_turn", "_law_row", "_law_way_here"]
theorem sc_Lall : FnScope ["_law_many", "_law_ways", "_law_found", "_law_turn", "_law_row", "_law_way_here"] ["_law_many", "_law_ways"] (defScope s_Lall) := ⟨rfl, rfl, rfl, by decide +kernel, rfl, by decide +kernel, by decide +kernel⟩
abbrev s_Lties : Stmt := topS 42
abbrev N_Lties : List Str := ["_law_table_here", "_law_lots", "_law_one", "_law_other", "_law_both", "_law_number", "_law_lot"]
theorem sc_Lties : FnScope ["_law_table_here", "_law_lots", "_law_one", "_law_other", "_law_both", "_law_number", "_law_lot"] ["_law_table_here"] (defScope s_Lties) := ⟨rfl, rfl, rfl, by decide +kernel, rfl, by decide +kernel, by decide +kernel⟩
abbrev s_Lright : Stmt := topS 43
abbrev N_Lright : List Str := ["_law_table_here", "_law_ties_here", "_law_some_here", "_law_many", "_law_choice", "_law_is_so", "_law_met", "_law_tie", "_law_number"]
theorem sc_Lright : FnScope ["_law_table_here", "_law_ties_here", "_law_some_here", "_law_many", "_law_choice", "_law_is_so", "_law_met", "_law_tie", "_law_number"] ["_law_table_here"] (defScope s_Lright) := ⟨rfl, rfl, rfl, by decide +kernel, rfl, by decide +kernel, by decide +kernel⟩
abbrev s_law : Stmt := topS 44
abbrev N_law : List Str := ["_law_script", "_law_cup_here", "_law_turn", "_law_table_here", "_law_rung"]
theorem sc_law : FnScope ["_law_script", "_law_cup_here", "_law_turn", "_law_table_here", "_law_rung"] ["_law_script"] (defScope s_law) := ⟨rfl, rfl, rfl, by decide +kernel, rfl, by decide +kernel, by decide +kernel⟩
/-- the built-in names are the built-in things -/
structure Bl (mg : Str → Option Value) : Prop where
  b_isinstance : mg "isinstance" = none
  b_int : mg "int" = none
  b_bool : mg "bool" = none
  b_tuple : mg "tuple" = none
  b_len : mg "len" = none
  b_all : mg "all" = none
  b_any : mg "any" = none
  b_set : mg "set" = none
  b_range : mg "range" = none
  b_zip : mg "zip" = none
  b_enumerate : mg "enumerate" = none
  b_dict : mg "dict" = none
  b_sorted : mg "sorted" = none
  b_list : mg "list" = none
  b_abs : mg "abs" = none
  b_sum : mg "sum" = none
  rows : ∃ t, mg "ROWS" = some (.int 720 t)
  ways : ∃ t, mg "WAYS" = some (.int 6 t)
/-- a def of the text that may be called -/
structure Cal (P : Program) (w : World) (K : PySem.W.Frag) (mg : Str → Option Value) (base : Heap) (k : Nat) (x : Str) (ps : List Str) (sp : Sp) : Prop where
  ex : ∃ (f : Addr) (fd : FuncData), mg x = some (.ref f) ∧ PySem.W.keepIn K (.ref f) = true ∧ Binds K fd ps [] ∧ FnOk P w K mg base CX0 k f fd ps sp
theorem Cal.mono {P : Program} {w : World} {K : PySem.W.Frag} {mg : Str → Option Value} {base : Heap} {j k : Nat} {x : Str} {ps : List Str} {sp : Sp} (C : Cal P w K mg base j x ps sp) (h : j ≤ k) : Cal P w K mg base k x ps sp := by
  obtain ⟨f, fd, a, b, c, d⟩ := C.ex
  exact ⟨f, fd, a, b, c, d.mono h⟩
theorem pe_cal {X : Cx} {k : Nat} {x : Str} {ps : List Str} {sp : Sp} {e : Expr} {es : List Expr} {t : TA} {p pos : Pos} (C : Cal X.prog X.w X.K X.mg X.base k x ps sp) (hr : Room k X.A) (hg : Gl X x)
    (ha : PA X (e :: es) t) (hdb : (x == ("__debug__" : Str)) = false := by decide) (he : starEach (e :: es) X.env = (false, eval e X.env) :: starEach es X.env := by rfl) (hpl : (backTo pos (starEach es X.env)).any (·.1) = false := by rfl) :
    PE X (.Call (.Name x p) (e :: es) [] pos) (tCall sp [] E0 t) := by
  obtain ⟨f, fd, m, kp, b, G⟩ := C.ex
  exact pe_call G hr hg m kp b .nil pass0 ha hdb he hpl
/-- how one argument, two arguments give what a promise wants -/
theorem ev_cal {sp : Sp} {t : TA} {σ : L2.St} {H : Hp} {vs : List V} (ha : EvA t σ H vs) {Q : VK} (hq : ∀ H1, Ex H H1 → sp vs H1 Q E0) : tCall sp [] E0 t σ H Q := ha H (Ex.refl H) _ fun H1 e1 => by
  rw [List.append_nil]
  exact hq H1 e1
end Rg
/-! Calls, all, any, sets, equality, told by relations; tables. -/
namespace Rg
open PySem L2 Evl RgR RgM
/-! ### unlike ones -/
def ded : List Nat → List Nat
  | [] => []
  | x :: xs => if x ∈ xs then ded xs else x :: ded xs
theorem mem_ded : ∀ {l : List Nat} {x : Nat}, x ∈ ded l ↔ x ∈ l
  | [], x => Iff.rfl
  | a :: l, x => by
    unfold ded
    by_cases h : a ∈ l
    · rw [if_pos h, mem_ded, List.mem_cons]
      constructor
      · exact .inr
      · rintro (e | e)
        · exact e ▸ h
        · exact e
    · rw [if_neg h, List.mem_cons, List.mem_cons, mem_ded]
theorem nodup_ded : ∀ l : List Nat, (ded l).Nodup
  | [] => List.nodup_nil
  | a :: l => by
    unfold ded
    by_cases h : a ∈ l
    · rw [if_pos h]
      exact nodup_ded l
    · rw [if_neg h]
      exact List.nodup_cons.mpr ⟨fun z => h (mem_ded.mp z), nodup_ded l⟩
def dc (l : List Nat) : Nat := (ded l).length
theorem dc_le : ∀ l : List Nat, dc l ≤ l.length
  | [] => Nat.le_refl 0
  | a :: l => by
    have ih := dc_le l
    unfold dc at ih ⊢
    unfold ded
    by_cases h : a ∈ l
    · rw [if_pos h, List.length_cons]
      omega
    · rw [if_neg h, List.length_cons, List.length_cons]
      omega
theorem dc_nodup : ∀ l : List Nat, dc l = l.length ↔ l.Nodup
  | [] => ⟨fun _ => List.nodup_nil, fun _ => rfl⟩
  | a :: l => by
    have ih := dc_nodup l
    have le := dc_le l
    unfold dc at ih le ⊢
    unfold ded
    rw [List.nodup_cons]
    by_cases h : a ∈ l
    · rw [if_pos h, List.length_cons]
      exact ⟨fun e => by omega, fun e => absurd h e.1⟩
    · rw [if_neg h, List.length_cons, List.length_cons]
      exact ⟨fun e => ⟨h, ih.mp (by omega)⟩, fun e => by rw [ih.mpr e.2]⟩
/-- any list of the unlike ones is as long -/
theorem dc_any {l : List Nat} {ks : List Int} (hn : ks.Nodup) (hm : ∀ k, k ∈ ks ↔ k ∈ iN l) : ks.length = dc l := by
  have hd : (iN (ded l)).Nodup := by
    unfold iN
    exact List.pairwise_map.mpr ((nodup_ded l).imp fun {a b} h e => h (Int.ofNat.inj e))
  have hmm : ∀ k, k ∈ iN (ded l) ↔ k ∈ iN l := fun k => by
    unfold iN
    rw [List.mem_map, List.mem_map]
    constructor
    · rintro ⟨x, hx, e⟩
      exact ⟨x, mem_ded.mp hx, e⟩
    · rintro ⟨x, hx, e⟩
      exact ⟨x, mem_ded.mpr hx, e⟩
  have h1 := len_le_of_sub hn (m := iN (ded l)) fun k hk => (hmm k).mpr ((hm k).mp hk)
  have h2 := len_le_of_sub hd (m := ks) fun k hk => (hm k).mpr ((hmm k).mp hk)
  rw [len_iN] at h1 h2
  unfold dc
  omega
theorem dc_one {l : List Nat} : ¬ 1 < dc l ↔ ∀ x ∈ l, ∀ y ∈ l, x = y := by
  unfold dc
  constructor
  · intro h x hx y hy
    have hx' := mem_ded.mpr hx
    have hy' := mem_ded.mpr hy
    generalize ded l = d at h hx' hy'
    match d, h, hx', hy' with
    | [], _, hx', _ => exact absurd hx' (by simp)
    | [z], _, hx', hy' =>
      rw [List.mem_singleton] at hx' hy'
      exact hx'.trans hy'.symm
    | _ :: _ :: _, h, _, _ => exact absurd (by simp) h
  · intro h hlt
    have hn := nodup_ded l
    have hm : ∀ x, x ∈ ded l → x ∈ l := fun x hx => mem_ded.mp hx
    generalize ded l = d at hlt hn hm
    match d, hlt, hn, hm with
    | [], hlt, _, _ => exact absurd hlt (by simp)
    | [z], hlt, _, _ => exact absurd hlt (by simp)
    | a :: b :: r, _, hn, hm =>
      have e := h a (hm a List.mem_cons_self) b (hm b (List.mem_cons_of_mem _ List.mem_cons_self))
      exact (List.nodup_cons.mp hn).1 (e ▸ List.mem_cons_self)

section
variable {K : PySem.W.Frag} {w : World} {σ : L2.St} {H H' : Hp} {ta tb tc te tl : TE} {t : TA} {x y z : V} {α β : Type} {R : Rl α} {S : Rl β}
/-! ### calls -/
theorem ev_call {sp : Sp} {vs : List V} {r : V} (ha : EvA t σ H vs) (hq : ∀ H1, Ex H H1 → ∀ Q : VK, (∀ H2, Ex H1 H2 → Q r H2) → sp vs H1 Q E0) : Ev (tCall sp [] E0 t) σ H r := fun H1 e Q q =>
  ha H1 e _ fun H2 e2 => by
    rw [List.append_nil]
    exact hq H2 (e.trans e2) Q fun H3 e3 => q H3 (e2.trans e3)
theorem er_call {sp : Sp} {vs : List V} {r : α} (ha : EvA t σ H vs) (hq : ∀ H1, Ex H H1 → ∀ Q : VK, (∀ v H2, Ex H1 H2 → R H2 v r → Q v H2) → sp vs H1 Q E0) : Er R (tCall sp [] E0 t) σ H r := fun H1 e Q q =>
  ha H1 e _ fun H2 e2 => by
    rw [List.append_nil]
    exact hq H2 (e.trans e2) Q fun v H3 e3 => q v H3 (e2.trans e3)
theorem ev_v {i : Nat} {v : V} (h : σ[i]? = some (some v)) : Ev (tVar i) σ H v := ev_var h
theorem a1 (h : Ev ta σ H x) : EvA (tCons ta tNil) σ H [x] := Evl.ea_cons h Evl.ea_nil
theorem a2 (h : Ev ta σ H x) (k : Ev tb σ H y) : EvA (tCons ta (tCons tb tNil)) σ H [x, y] := Evl.ea_cons h (a1 k)
theorem a3 (h : Ev ta σ H x) (k : Ev tb σ H y) (l : Ev tc σ H z) : EvA (tCons ta (tCons tb (tCons tc tNil))) σ H [x, y, z] := Evl.ea_cons h (a2 k l)
/-! ### all, any -/
theorem pr_bl : ∀ {vs : List V} {bs : List Bool}, Paired (BlR H) vs bs → vs = bs.map V.bl
  | _, _, .nil => rfl
  | _, _, .cons r t => by
    rw [pr_bl t]
    cases r
    rfl
theorem ev_all {bs : List Bool} (h : Er (LstR BlR) ta σ H bs) : Ev (tCB (rAll K) (tCons ta tNil)) σ H (.bl (bs.all id)) := fun H1 e Q q => h H1 e _ fun v H2 e2 r => by
  obtain ⟨a, vs, rfl, ha, hp⟩ := r
  rw [pr_bl hp] at ha
  exact ⟨a, bs, rfl, .inl (.inl ha), q H2 e2⟩
theorem ev_any {bs : List Bool} (h : Er (LstR BlR) ta σ H bs) : Ev (tCB (rAny K) (tCons ta tNil)) σ H (.bl (bs.any id)) := fun H1 e Q q => h H1 e _ fun v H2 e2 r => by
  obtain ⟨a, vs, rfl, ha, hp⟩ := r
  rw [pr_bl hp] at ha
  exact ⟨a, bs, rfl, .inl (.inl ha), q H2 e2⟩
theorem all_true (xs : List α) {f : α → Bool} (h : ∀ x ∈ xs, f x = true) : (xs.map f).all id = true := by
  rw [List.all_map]
  exact List.all_eq_true.mpr h
/-! ### sets -/
theorem ev_lenSetL {ns : List Nat} (h : Er LN ta σ H ns) (hl : ns.length ≤ 4000) : Ev (tCB (rLenSetO w) (tCons (tCB (rSetI K w) (tCons ta tNil)) tNil)) σ H (.int (dc ns : Int)) := fun H1 e Q q => h H1 e _ fun v H2 e2 r => by
  obtain ⟨a, rfl, ha⟩ := ln_v r
  rw [← iN_v] at ha
  refine ⟨a, iN ns, rfl, .inl (.inl (.inl ha)), by rw [len_iN]; exact hl, fun p ks np h1 h2 => ?_⟩
  refine ⟨p, _, ks.length, rfl, upd_same, ?_⟩
  rw [dc_any h1 h2]
  exact q _ (e2.trans (Ex.new np))
theorem ev_lenSetT {ns : List Nat} (h : Er TN ta σ H ns) (hl : ns.length ≤ 4000) : Ev (tCB (rLenSetO w) (tCons (tCB (rSetI K w) (tCons ta tNil)) tNil)) σ H (.int (dc ns : Int)) := fun H1 e Q q => h H1 e _ fun v H2 e2 r => by
  obtain ⟨a, rfl, ha⟩ := tn_v r
  rw [← iN_v] at ha
  refine ⟨a, iN ns, rfl, .inr (.inl (.inl ha)), by rw [len_iN]; exact hl, fun p ks np h1 h2 => ?_⟩
  refine ⟨p, _, ks.length, rfl, upd_same, ?_⟩
  rw [dc_any h1 h2]
  exact q _ (e2.trans (Ex.new np))
/-! ### data at any depth -/
def dN (ns : List Nat) : List PyData := ns.map fun (n : Nat) => PyData.int (n : Int)
theorem dpa_n : ∀ ns : List Nat, DpAll K H (vN ns) (dN ns)
  | [] => .nil
  | n :: ns => .cons (.int _) (dpa_n ns)
theorem dp_tn {v : V} {ns : List Nat} (h : TN H v ns) : Dp K H v (.tuple (dN ns)) := by
  obtain ⟨a, rfl, ha⟩ := tn_v h
  exact .tup (.inl (.inl ha)) (dpa_n ns)
theorem dp_ln {v : V} {ns : List Nat} (h : LN H v ns) : Dp K H v (.list (dN ns)) := by
  obtain ⟨a, rfl, ha⟩ := ln_v h
  exact .lst (.inl (.inl ha)) (dpa_n ns)
theorem dp_each {d : α → PyData} (hd : ∀ v x, R H v x → Dp K H v (d x)) : ∀ {vs : List V} {xs : List α}, Paired (R H) vs xs → DpAll K H vs (xs.map d)
  | _, _, .nil => .nil
  | _, _, .cons r t => .cons (hd _ _ r) (dp_each hd t)
theorem dp_ltn {v : V} {L : List (List Nat)} (h : LTN H v L) : Dp K H v (.list (L.map fun l => .tuple (dN l))) := by
  obtain ⟨a, vs, rfl, ha, hp⟩ := h
  exact .lst (.inl (.inl ha)) (dp_each (R := TN) (fun v x r => dp_tn r) hp)
theorem lay_n (ns : List Nat) : PyData.canLayAll0 (dN ns) = true := by
  induction ns with
  | nil => rfl
  | cons n ns ih =>
    show PyData.canLayAll0 (PyData.int n :: dN ns) = true
    rw [PyData.canLayAll0, ih]
    rfl
theorem dep_n (ns : List Nat) : PyData.depthAll (dN ns) = 0 := by
  induction ns with
  | nil => rfl
  | cons n ns ih =>
    show PyData.depthAll (PyData.int n :: dN ns) = 0
    rw [PyData.depthAll, ih]
    rfl
theorem eqv_n (ns ms : List Nat) : PyData.eqvAll (dN ns) (dN ms) = decide (ns = ms) := by
  induction ns generalizing ms with
  | nil => cases ms <;> rfl
  | cons n ns ih =>
    cases ms with
    | nil => rfl
    | cons m ms =>
      show PyData.eqvAll (PyData.int n :: dN ns) (PyData.int m :: dN ms) = _
      rw [PyData.eqvAll, ih]
      show ((n : Int) == (m : Int) && decide (ns = ms)) = decide (n :: ns = m :: ms)
      rw [Bool.eq_iff_iff, Bool.and_eq_true, beq_iff_eq, decide_eq_true_eq, decide_eq_true_eq, List.cons.injEq, Int.ofNat_inj]
theorem sh_tn (ns : List Nat) : SeqAt.shaped (.tuple (dN ns)) = true := by
  show (PyData.canLay0 (.tuple (dN ns)) && decide (PyData.depth (.tuple (dN ns)) ≤ 64)) = true
  rw [PyData.canLay0, PyData.depth, lay_n, dep_n]
  rfl
theorem sh_ln (ns : List Nat) : SeqAt.shaped (.list (dN ns)) = true := by
  show (PyData.canLay0 (.list (dN ns)) && decide (PyData.depth (.list (dN ns)) ≤ 64)) = true
  rw [PyData.canLay0, PyData.depth, lay_n, dep_n]
  rfl
theorem lay_all (d : List Nat → PyData) (hd : ∀ l, (d l).canLay0 = true) : ∀ L : List (List Nat), PyData.canLayAll0 (L.map d) = true
  | [] => rfl
  | l :: L => by
    show PyData.canLayAll0 (d l :: L.map d) = true
    rw [PyData.canLayAll0, hd l, lay_all d hd L]
    rfl
theorem dep_all (d : List Nat → PyData) (hd : ∀ l, (d l).depth = 1) : ∀ L : List (List Nat), PyData.depthAll (L.map d) ≤ 1
  | [] => by
    show PyData.depthAll [] ≤ 1
    rw [PyData.depthAll]
    omega
  | l :: L => by
    have ih := dep_all d hd L
    show PyData.depthAll (d l :: L.map d) ≤ 1
    rw [PyData.depthAll, hd l]
    omega
theorem sh_all (d : List Nat → PyData) (h1 : ∀ l, (d l).canLay0 = true) (h2 : ∀ l, (d l).depth = 1) (L : List (List Nat)) : SeqAt.shaped (.list (L.map d)) = true := by
  have e := dep_all d h2 L
  show (PyData.canLay0 (.list (L.map d)) && decide (PyData.depth (.list (L.map d)) ≤ 64)) = true
  rw [PyData.canLay0, PyData.depth, lay_all d h1, Bool.true_and]
  exact decide_eq_true (by omega)
theorem sh_ltn (L : List (List Nat)) : SeqAt.shaped (.list (L.map fun l => .tuple (dN l))) = true := sh_all (fun l => .tuple (dN l)) (fun l => by
    show PyData.canLay0 (.tuple (dN l)) = true
    rw [PyData.canLay0, lay_n]) (fun l => by
    show PyData.depth (.tuple (dN l)) = 1
    rw [PyData.depth, dep_n]) L
theorem sh_lln (L : List (List Nat)) : SeqAt.shaped (.list (L.map fun l => .list (dN l))) = true := sh_all (fun l => .list (dN l)) (fun l => by
    show PyData.canLay0 (.list (dN l)) = true
    rw [PyData.canLay0, lay_n]) (fun l => by
    show PyData.depth (.list (dN l)) = 1
    rw [PyData.depth, dep_n]) L
theorem eqv_ltn (L M : List (List Nat)) : PyData.eqv (.list (L.map fun l => .tuple (dN l))) (.list (M.map fun l => .tuple (dN l))) = decide (L = M) := by
  rw [PyData.eqv]
  induction L generalizing M with
  | nil => cases M <;> rfl
  | cons l L ih =>
    cases M with
    | nil => rfl
    | cons m M =>
      show PyData.eqvAll (PyData.tuple (dN l) :: L.map fun l => .tuple (dN l)) (PyData.tuple (dN m) :: M.map fun l => .tuple (dN l)) = _
      rw [PyData.eqvAll, ih, PyData.eqv, eqv_n, Bool.eq_iff_iff, Bool.and_eq_true, decide_eq_true_eq, decide_eq_true_eq, decide_eq_true_eq, List.cons.injEq]
theorem eqv_ln (l m : List Nat) : PyData.eqv (.list (dN l)) (.list (dN m)) = decide (l = m) := by
  rw [PyData.eqv, eqv_n]
end
section
variable {K : PySem.W.Frag} {σ : L2.St} {H : Hp} {ta tb : TE}
/-- == and != of lists of tuples of numbers, of lists of numbers -/
theorem ev_eqLTN {L M : List (List Nat)} (h : Er LTN ta σ H L) (k : Er LTN tb σ H M) : Ev (tOp (rEqD K) ta tb) σ H (.bl (decide (L = M))) := fun H1 e Q q => h H1 e _ fun v H2 e2 r => k H2 (e.trans e2) _ fun w H3 e3 s => by
  refine ⟨_, _, dp_ltn (mLTN _ _ _ _ e3 r), dp_ltn s, sh_ltn L, sh_ltn M, ?_⟩
  rw [eqv_ltn]
  exact q H3 (e2.trans e3)
theorem ev_neLTN {L M : List (List Nat)} (h : Er LTN ta σ H L) (k : Er LTN tb σ H M) : Ev (tOp (rNeD K) ta tb) σ H (.bl (!decide (L = M))) := fun H1 e Q q => h H1 e _ fun v H2 e2 r => k H2 (e.trans e2) _ fun w H3 e3 s => by
  refine ⟨_, _, dp_ltn (mLTN _ _ _ _ e3 r), dp_ltn s, sh_ltn L, sh_ltn M, ?_⟩
  rw [eqv_ltn]
  exact q H3 (e2.trans e3)
theorem ev_eqLN {l m : List Nat} (h : Er LN ta σ H l) (k : Er LN tb σ H m) : Ev (tOp (rEqD K) ta tb) σ H (.bl (decide (l = m))) := fun H1 e Q q => h H1 e _ fun v H2 e2 r => k H2 (e.trans e2) _ fun w H3 e3 s => by
  refine ⟨_, _, dp_ln (mLN _ _ _ _ e3 r), dp_ln s, sh_ln l, sh_ln m, ?_⟩
  rw [eqv_ln]
  exact q H3 (e2.trans e3)
end
/-! ### tables -/
def tabD (n : Nat) (p q : Nat → Nat) : List (List Nat) := (List.range n).map fun i => [p i, q i]
theorem len_tab (n : Nat) (p q : Nat → Nat) : (tabD n p q).length = n := by
  unfold tabD
  rw [List.length_map, List.length_range]
theorem get_tab {n : Nat} {p q : Nat → Nat} {i : Nat} (h : i < n) : (tabD n p q)[i]? = some [p i, q i] := by
  unfold tabD
  rw [List.getElem?_map, List.getElem?_range h]
  rfl
theorem mem_tab {n : Nat} {p q : Nat → Nat} {l : List Nat} (h : l ∈ tabD n p q) : ∃ i, i < n ∧ l = [p i, q i] := by
  unfold tabD at h
  obtain ⟨i, hi, e⟩ := List.mem_map.mp h
  exact ⟨i, List.mem_range.mp hi, e.symm⟩
end Rg
/-! The layer's rules with the written part named, so that they fit within comprehensions. -/
namespace Rg
open PySem L2 Evl RgR RgM
theorem blk_in {N : List Str} {sc0 sc1 sc2 : Scope} {env : Env} {cl : List (Str × Addr)} {C : Addr} {own : List (Str × Nat)} (hs : env.scope = sc0) (h : blkC N (relS sc1 sc0) sc2 own = true) : BlkOk N (compEnvC sc1 cl C env).scope sc2 own := by
  subst hs
  exact blkOk_by h
section
variable {X : Cx}
theorem cLen (K : PySem.W.Frag) (h : X.K = K := by rfl) : CallR X (.builtin "len") (rLenS K) := h ▸ call_len_seq
theorem cAll (K : PySem.W.Frag) (h : X.K = K := by rfl) (hc : X.calm = true := by rfl) : CallR X (.builtin "all") (rAll K) := h ▸ cr_all hc
theorem cAny (K : PySem.W.Frag) (h : X.K = K := by rfl) (hc : X.calm = true := by rfl) : CallR X (.builtin "any") (rAny K) := h ▸ cr_any hc
theorem cSet (K : PySem.W.Frag) (w : World) (h : X.K = K := by rfl) (h' : X.w = w := by rfl) (hc : X.calm = true := by rfl) : CallR X (.type "set") (rSetI K w) := h ▸ h' ▸ cr_setI hc
theorem cLenSet (w : World) (h : X.w = w := by rfl) : CallR X (.builtin "len") (rLenSetO w) := h ▸ cr_lenSet
theorem cTup (K : PySem.W.Frag) (h : X.K = K := by rfl) : CallR X (.type "tuple") (rTupOf K) := h ▸ call_tuple_of
theorem cList (K : PySem.W.Frag) (h : X.K = K := by rfl) : CallR X (.type "list") (rListS K) := h ▸ call_list_of
theorem cIsi (K : PySem.W.Frag) (h : X.K = K := by rfl) : CallR X (.builtin "isinstance") (rIsi K) := h ▸ call_isi
theorem cSortT (K : PySem.W.Frag) (h : X.K = K := by rfl) : CallR X (.builtin "sorted") (rSortedIT K) := h ▸ cr_sortedIT
theorem cSortL (K : PySem.W.Frag) (h : X.K = K := by rfl) : CallR X (.builtin "sorted") (rSortedI K) := h ▸ cr_sortedI
theorem cSortS (w : World) (h : X.w = w := by rfl) (hc : X.calm = true := by rfl) : CallR X (.builtin "sorted") (rSortedSet w) := h ▸ cr_sortedSet hc
theorem cSortTs (K : PySem.W.Frag) (hu : X.A.units + 64 < cLine) (h : X.K = K := by rfl) : CallR X (.builtin "sorted") (rSortedTs K) := h ▸ cr_sortedTs hu
theorem cSum (K : PySem.W.Frag) (h : X.K = K := by rfl) (hc : X.calm = true := by rfl) : CallR X (.builtin "sum") (rSumLs K) := h ▸ cr_sumLs hc
def rDictP (K : PySem.W.Frag) : List V → Hp → VK → Prop := fun xs H Q => ∃ (a : Addr) (ps : List Addr) (kvs : List (Key × V)), xs = [.ref a] ∧ SqL K H a (ps.map V.ref) ∧ Paired (fun p kv => SqT K H p [kV kv.1, kv.2]) ps kvs ∧ ∀ p, H p = none → Q (.ref p) (upd H p (.dK (mergeK [] kvs)))
theorem cDict (K : PySem.W.Frag) (h : X.K = K := by rfl) (hc : X.calm = true := by rfl) : CallR X (.type "dict") (rDictP K) := h ▸ call_dictP hc
theorem iT (K : PySem.W.Frag) (h : X.K = K := by rfl) : IxR X (rIxT K) := h ▸ ix_tup
theorem iL (K : PySem.W.Frag) (h : X.K = K := by rfl) : IxR X (rIxL K) := h ▸ ix_list
theorem piT (K : PySem.W.Frag) {tg l : Expr} {tl : TE} (he : PE X l tl) (h : X.K = K := by rfl) : PI X tg l (iTup K tl) := h ▸ pi_tup he
theorem piL (K : PySem.W.Frag) {tg l : Expr} {tl : TE} (he : PE X l tl) (h : X.K = K := by rfl) : PI X tg l (iList K tl) := h ▸ pi_list he
theorem piE (K : PySem.W.Frag) {e : Expr} {ta : TA} {p pos tpos : Pos} {elts : List Expr} {kk : Nat} (hg : Gl X "enumerate") (hm : X.mg "enumerate" = none) (ha : PA X [e] ta) (h : X.K = K := by rfl) (hs : starEach [e] X.env = [(false, eval e X.env)] := by rfl) :
    PI X (.Tuple elts kk tpos) (.Call (.Name "enumerate" p) [e] [] pos) (iEnumT K ta) := h ▸ pi_enumT hg hm ha hs
theorem piZ (K : PySem.W.Frag) {e e2 : Expr} {ta : TA} {p pos tpos : Pos} {elts : List Expr} {kk : Nat} (hg : Gl X "zip") (hm : X.mg "zip" = none) (ha : PA X [e, e2] ta) (h : X.K = K := by rfl) (hs : starEach [e, e2] X.env = (false, eval e X.env) :: starEach [e2] X.env := by rfl)
    (hpl : ((backTo pos (starEach [e2] X.env)).any fun x => x.1) = false := by rfl) : PI X (.Tuple elts kk tpos) (.Call (.Name "zip" p) [e, e2] [] pos) (RZ.iZipA K ta) := h ▸ RZ.pi_zipA hg hm ha hs hpl
theorem gT2 (K : PySem.W.Frag) {a b : Expr} {k : Nat} {pos : Pos} {t : TGs} (hc : X.calm = true) (hs : PGs X [a, b] t) (h : X.K = K := by rfl) (hn : (assignEach [a, b] X.env).length = 2 := by rfl) (hst : (assignEach [a, b] X.env).findIdx? (·.1) = none := by rfl) : PG X (.Tuple [a, b] k pos) (gTup K 2 t) := h ▸ pg_tup hc hs hn hst
theorem oEqD (K : PySem.W.Frag) (hu : X.A.units + 64 < cLine) (h : X.K = K := by rfl) : OpR X (compareOp .Eq) (rEqD K) := h ▸ op_eqD hu
theorem oNeD (K : PySem.W.Frag) (hu : X.A.units + 64 < cLine) (h : X.K = K := by rfl) : OpR X (compareOp .NotEq) (rNeD K) := h ▸ op_neD hu
theorem oNotInD (K : PySem.W.Frag) (hu : X.A.units + 65 < cLine) (h : X.K = K := by rfl) : OpR X (compareOp .NotIn) (rNotInD K) := h ▸ op_notInD hu
theorem oIn (K : PySem.W.Frag) (h : X.K = K := by rfl) : OpR X (compareOp .In) (rIn K false) := h ▸ op_in_seq
theorem oCatT (K : PySem.W.Frag) (h : X.K = K := by rfl) : OpR X (binaryOp .Add) (rCatA K) := h ▸ op_catA
end
end Rg
/-! The first defs. -/
namespace Rg
open PySem L2 Evl RgR RgM
section
variable {K : PySem.W.Frag} {σ : L2.St} {H H' : Hp} {ta tb tc te tl : TE} {t : TT} {x y z : V}
theorem ev_isi {c : V} {ty u : Value} {b : Bool} (ha : Ev ta σ H x) (hc : Ev tc σ H c) (hk : ClsV c u) (ht : ∀ H1, Ex H H1 → TyX K H1 x ty) (hb : PySem.W.kitOne K ty u = some b) : Ev (tCB (rIsi K) (tCons ta (tCons tc tNil))) σ H (.bl b) := fun H1 e Q q =>
  ha H1 e _ fun H2 e2 => hc H2 (e.trans e2) _ fun H3 e3 => ⟨x, c, ty, u, b, rfl, hk, ht H3 ((e.trans e2).trans e3), hb, q H3 (e2.trans e3)⟩
theorem ev_le {i j : Int} : RV (rI0 fun i j => .bl (decide (i ≤ j))) (.int i) (.int j) H (.bl (decide (i ≤ j))) := rv_I0
theorem ev_chain {r r' : R2} {a b : Bool} (ha : Ev ta σ H x) (hb : Ev tb σ H y) (hc : Ev tc σ H z) (h1 : RV r x y H (.bl a)) (h2 : RV r' y z H (.bl b)) : Ev (tChain r r' ta tb tc) σ H (.bl (a && b)) := fun H1 e Q q =>
  ha H1 e _ fun H2 e2 => hb H2 (e.trans e2) _ fun H3 e3 => h1 H3 ((e.trans e2).trans e3) _ fun H4 e4 => ⟨a, rfl, by
    cases a with
    | true =>
      show tc σ H4 fun w' H5 => r' y w' H5 Q
      exact hc H4 (((e.trans e2).trans e3).trans e4) _ fun H5 e5 => h2 H5 ((((e.trans e2).trans e3).trans e4).trans e5) _ fun H6 e6 => q H6 ((((e2.trans e3).trans e4).trans e5).trans e6)
    | false =>
      show Q (.bl false) H4
      exact q H4 ((e2.trans e3).trans e4)⟩
end
section
variable {P : Program} {w : World} {K : PySem.W.Frag} {mg : Str → Option Value} {base : Heap}
def spWhole : Sp := fun vs H Q _ => ∃ i l h : Int, vs = [.int i, .int l, .int h] ∧ ∀ H', Ex H H' → Q (.bl (decide (l ≤ i) && decide (i ≤ h))) H'
theorem ok_is_whole {f : Addr} {fd : FuncData} (F : Fun K "is_whole" "is_whole" s_is_whole f fd) (T : Bl mg) : FnOk P w K mg base CX0 1 f fd ["value", "low", "high"] spWhole := by
  refine F.ok sc_is_whole (fun vs H Q E h => ?_) (fun cdv A outer s H vs Q E hr h => ?_)
  · obtain ⟨i, l, h, rfl, _⟩ := h
    rfl
  · obtain ⟨i, l, h, rfl, k⟩ := h
    refine ⟨_, pss_one (ps_ret (pe_and (pe_callB call_isi (by rfl) T.b_isinstance (by decide +kernel) (pa_cons (pv 0) (pa_cons (pe_bltn (v := .ty "int") (by rfl) T.b_int (by decide +kernel) rfl) pa_nil)))
      (pe_and (pe_not (pe_callB call_isi (by rfl) T.b_isinstance (by decide +kernel) (pa_cons (pv 0) (pa_cons (pe_bltn (v := .ty "bool") (by rfl) T.b_bool (by decide +kernel) rfl) pa_nil))))
      (pe_one (pe_chain op_le op_le (pv 1) (pv 0) (pv 2)))))), ?_⟩
    have e1 := ev_isi (K := K) (σ := start ["value", "low", "high"] [.int i, .int l, .int h]) (H := H) (ev_var (i := 0) (v := .int i) rfl) (ev_c (v := .ty "int")) (.ty "int") (fun H1 _ => .base (.int i)) (kit_ty (a := "int") (b := "int") (r := true) (by decide +kernel))
    have e2 := ev_isi (K := K) (σ := start ["value", "low", "high"] [.int i, .int l, .int h]) (H := H) (ev_var (i := 0) (v := .int i) rfl) (ev_c (v := .ty "bool")) (.ty "bool") (fun H1 _ => .base (.int i)) (kit_ty (a := "int") (b := "bool") (r := false) (by decide +kernel))
    have e3 := ev_chain (σ := start ["value", "low", "high"] [.int i, .int l, .int h]) (H := H) (ev_var (i := 1) (v := .int l) rfl) (ev_var (i := 0) (v := .int i) rfl) (ev_var (i := 2) (v := .int h) rfl) ev_le ev_le
    exact ev_andV e1 (fun _ => ev_andV (ev_notV e2) fun _ => e3) H (Ex.refl H) _ fun H1 e => k H1 e
def spTupleOf : Sp := fun vs H Q _ => ∃ (a : Addr) (xs : List V) (l h : Int), vs = [.ref a, .int l, .int h] ∧ H a = some (.tup xs) ∧ ∀ H', Ex H H' → Q (.bl (decide (l ≤ (xs.length : Int)) && decide ((xs.length : Int) ≤ h))) H'
theorem ok_is_tuple_of {f : Addr} {fd : FuncData} (F : Fun K "is_tuple_of" "is_tuple_of" s_is_tuple_of f fd) (T : Bl mg) : FnOk P w K mg base CX0 1 f fd ["value", "low", "high"] spTupleOf := by
  refine F.ok sc_is_tuple_of (fun vs H Q E h => ?_) (fun cdv A outer s H vs Q E hr h => ?_)
  · obtain ⟨a, xs, l, h, rfl, _⟩ := h
    rfl
  · obtain ⟨a, xs, l, h, rfl, ha, k⟩ := h
    refine ⟨_, pss_one (ps_ret (pe_and (pe_callB call_isi (by rfl) T.b_isinstance (by decide +kernel) (pa_cons (pv 0) (pa_cons (pe_bltn (v := .ty "tuple") (by rfl) T.b_tuple (by decide +kernel) rfl) pa_nil)))
      (pe_one (pe_chain op_le op_le (pv 1) (pe_callB call_len_seq (by rfl) T.b_len PySem.boot_len (pa_cons (pv 0) pa_nil)) (pv 2))))), ?_⟩
    have e1 := ev_isi (K := K) (σ := start ["value", "low", "high"] [.ref a, .int l, .int h]) (H := H) (ev_var (i := 0) (v := .ref a) rfl) (ev_c (v := .ty "tuple")) (.ty "tuple") (fun H1 e => .base (.tup (e a _ ha))) (kit_ty (a := "tuple") (b := "tuple") (r := true) (by decide +kernel))
    have e2 : Ev (tCB (rLenS K) (tCons (tVar 0) tNil)) (start ["value", "low", "high"] [.ref a, .int l, .int h]) H (.int (xs.length : Int)) := fun H1 e Q q => ⟨.ref a, rfl, a, xs, rfl, .inr (.inl (.inl (e a _ ha))), q H1 (Ex.refl H1)⟩
    have e3 := ev_chain (σ := start ["value", "low", "high"] [.ref a, .int l, .int h]) (H := H) (ev_var (i := 1) (v := .int l) rfl) e2 (ev_var (i := 2) (v := .int h) rfl) ev_le ev_le
    exact ev_andV e1 (fun _ => e3) H (Ex.refl H) _ fun H1 e => k H1 e
end
end Rg
/-! fits_table. -/
namespace Rg
open PySem L2 Evl RgR RgM
section
variable {P : Program} {w : World} {K : PySem.W.Frag} {mg : Str → Option Value} {base : Heap}
/-- of a table: a value -/
def spTabV (r : V) : Sp := fun vs H Q _ => ∃ (v : V) (n : Nat) (p q s t : Nat → Nat), vs = [v] ∧ TTN H v (tabD n p q) ∧ Tab2 n p q s t ∧ 1 ≤ n ∧ n ≤ 20 ∧ ∀ H', Ex H H' → Q r H'
theorem spTabV_len {r : V} : ∀ vs H Q E, spTabV r vs H Q E → vs.length = 1 := fun vs H Q E h => by
  obtain ⟨v, n, p, q, s, t, rfl, _⟩ := h
  rfl
theorem ev_eqN {σ : L2.St} {H : Hp} {ta tb : TE} {a b : Nat} (h : Ev ta σ H (.int (a : Int))) (k : Ev tb σ H (.int (b : Int))) : Ev (tOp rEq ta tb) σ H (.bl (decide (a = b))) :=
  ev_is (ev_op h k (rv_eq rfl)) (by rw [V.bl.injEq, Bool.eq_iff_iff, decide_eq_true_eq, decide_eq_true_eq, V.int.injEq, Int.ofNat_inj])
theorem ev_neN {σ : L2.St} {H : Hp} {ta tb : TE} {a b : Nat} (h : Ev ta σ H (.int (a : Int))) (k : Ev tb σ H (.int (b : Int))) : Ev (tOp rNe ta tb) σ H (.bl (!decide (a = b))) :=
  ev_is (ev_op h k (rv_ne rfl)) (by rw [V.bl.injEq, Bool.eq_iff_iff, Bool.not_eq_true', Bool.not_eq_true', decide_eq_false_iff_not, decide_eq_false_iff_not, V.int.injEq, Int.ofNat_inj])
section
variable {σ : L2.St} {H : Hp} {ta tb tc : TE} {α : Type} {R : Rl α}
theorem ev_tupOf {v : V} {xs : List α} {l h : Int} (h1 : Ev ta σ H v) (r : TupR R H v xs) (h2 : Ev tb σ H (.int l)) (h3 : Ev tc σ H (.int h)) (hl : l ≤ (xs.length : Int)) (hh : (xs.length : Int) ≤ h) : Ev (tCall spTupleOf [] E0 (tCons ta (tCons tb (tCons tc tNil)))) σ H (.bl true) := by
  obtain ⟨a, vs, rfl, ha, hp⟩ := r
  refine ev_call (a3 h1 h2 h3) fun H1 e Q q => ⟨a, vs, l, h, rfl, e a _ ha, fun H2 e2 => ?_⟩
  rw [hp.length, decide_eq_true hl, decide_eq_true hh]
  exact q H2 e2
theorem ev_whole {i l h : Int} (h1 : Ev ta σ H (.int i)) (h2 : Ev tb σ H (.int l)) (h3 : Ev tc σ H (.int h)) (hl : l ≤ i) (hh : i ≤ h) : Ev (tCall spWhole [] E0 (tCons ta (tCons tb (tCons tc tNil)))) σ H (.bl true) := by
  refine ev_call (a3 h1 h2 h3) fun H1 e Q q => ⟨i, l, h, rfl, fun H2 e2 => ?_⟩
  rw [decide_eq_true hl, decide_eq_true hh]
  exact q H2 e2
end
theorem ok_fits_table {f : Addr} {fd : FuncData} (F : Fun K "fits_table" "fits_table" s_fits_table f fd) (T : Bl mg) (C1 : Cal P w K mg base 1 "is_tuple_of" ["value", "low", "high"] spTupleOf) (C2 : Cal P w K mg base 1 "is_whole" ["value", "low", "high"] spWhole) :
    FnOk P w K mg base CX0 2 f fd ["value"] (spTabV (.bl true)) := by
  refine F.ok sc_fits_table spTabV_len (fun cdv A outer s H vs Q E hr h => ?_)
  obtain ⟨v, n, p, q, sf, tf, rfl, hv, tab, h1, h20, k⟩ := h
  obtain ⟨tr, hrows⟩ := T.rows
  obtain ⟨tw, hways⟩ := T.ways
  have nd := sc_fits_table.nd
  refine ⟨_, pss_cons (ps_if (PW.pt (pw_or (pt_not (pt_val (pe_cal C1 hr (by rfl) (pa_cons (pv 0) (pa_cons pe_int (pa_cons (pe_glob (v := .int 720) (by rfl) hrows ⟨_, rfl⟩) pa_nil)))))) (pw_or1 (pt_not (pt_val (pe_callB (cAll K) (by rfl) T.b_all (by decide +kernel)
        (pa_cons (pe_lc (own := [("item", 2)]) (g := gName 2) (tt := tYes) rfl nd (piT K (pv 0)) (blkOk_by (N := N_fits_table) (sc := defScope s_fits_table) (by decide +kernel)) (fun _ _ _ _ _ => pg_name (i := 2) nd rfl (Or.inl rfl)) (fun _ _ _ _ _ => pts_nil)
          (fun _ _ _ _ _ => pe_cal C1 hr (by rfl) (pa_cons (pv 2) (pa_cons pe_int (pa_cons (pe_glob (v := .int 6) (by rfl) hways ⟨_, rfl⟩) pa_nil))))) pa_nil))))))) (pss_one (ps_ret pe_bl)) pss_nil)
    (pss_cons (ps_set (i := 1) nd rfl (Or.inl rfl) (pe_callB (cLen K) (by rfl) T.b_len PySem.boot_len (pa_cons (pe_ix (iT K) (pv 0) pe_int (fun _ _ => rfl)) pa_nil)))
    (pss_cons (ps_for PassesOwn.never rfl (piT K (pv 0)) (pg_name (i := 2) nd rfl (Or.inl rfl))
      (pss_one (ps_if (PW.pt (pw_or (pt_cmpR op_ne (pe_callB (cLen K) (by rfl) T.b_len PySem.boot_len (pa_cons (pv 2) pa_nil)) (pv 1) (nomark _)) (pw_or1 (pt_not (pt_val (pe_callB (cAll K) (by rfl) T.b_all (by decide +kernel)
        (pa_cons (pe_lc (own := [("number", 3)]) (g := gName 3) (tt := tYes) rfl nd (piT K (pv 2)) (blkOk_by (N := N_fits_table) (sc := defScope s_fits_table) (by decide +kernel)) (fun _ _ _ _ _ => pg_name (i := 3) nd rfl (Or.inl rfl)) (fun _ _ _ _ _ => pts_nil)
          (fun _ _ _ _ _ => pe_cal C2 hr (by rfl) (pa_cons (pv 3) (pa_cons pe_int (pa_cons (pe_op op_sub (pe_callB (cLen K) (by rfl) T.b_len PySem.boot_len (pa_cons (pv 0) pa_nil)) pe_int) pa_nil))))) pa_nil))))))) (pss_one (ps_ret pe_bl)) pss_nil)))
    (pss_one (ps_ret (pe_callB (cAll K) (by rfl) T.b_all (by decide +kernel) (pa_cons (pe_lc (own := [("way", 4)]) (g := gName 4) (tt := tYes) rfl nd (pi_range1 (by rfl) T.b_range (pa_cons (pv 1) pa_nil)) (blkOk_by (N := N_fits_table) (sc := defScope s_fits_table) (by decide +kernel)) (fun _ _ _ _ _ => pg_name (i := 4) nd rfl (Or.inr rfl)) (fun _ _ _ _ _ => pts_nil)
        (fun _ _ _ _ _ => pe_cmpR op_eq (pe_callB (cLenSet w) (by rfl) T.b_len PySem.boot_len (pa_cons (pe_callTy (cSet K w) (by rfl) T.b_set PyProof.Rows.boot_set (pa_cons
          (pe_lc (own := [("item", 2)]) (g := gName 2) (tt := tYes) rfl nd (piT K (pv 0)) (blk_in (N := N_fits_table) (sc0 := defScope s_fits_table) rfl (by decide +kernel)) (fun _ _ _ _ _ => pg_name (i := 2) nd rfl (Or.inl rfl)) (fun _ _ _ _ _ => pts_nil)
            (fun _ _ _ _ _ => pe_ix (iT K) (pv 2) (pv 4) (fun _ _ => rfl))) pa_nil)) pa_nil)) (pe_callB (cLen K) (by rfl) T.b_len PySem.boot_len (pa_cons (pv 0) pa_nil)) (nomark _))) pa_nil)))))), ?_⟩
  obtain ⟨a, vs, rfl, ha, hp⟩ := id hv
  have hlen : vs.length = n := by rw [hp.length, len_tab]
  -- if not is_tuple_of(..) or not all(..)
  have hv0 : ∀ {σ : L2.St}, σ[0]? = some (some (V.ref a)) → Er TTN (tVar 0) σ H (tabD n p q) := fun h => er_var mTTN.m h hv
  refine q_when (b := false) (σ := [some (.ref a), none, none, none, none]) (et_or (et_not (et_B (ev_tupOf (ev_v rfl) hv ev_c ev_c (by rw [len_tab]; omega) (by rw [len_tab]; omega)))) fun _ => et_not (et_B (ev_is (ev_all (er_lcT1 (K := K) (R := TN) (S := BlR) (fun _ => true) mTN.m monT_bl (hv0 rfl) (by rw [len_tab]; omega) (fun _ => rfl)
      (fun x u H1 e hx r => ?_))) (by rw [all_true _ fun _ _ => rfl])))) (fun z => absurd z Bool.noConfusion) (fun _ H1 e1 => ?_)
  · obtain ⟨i, hi, rfl⟩ := mem_tab hx
    exact er_bl (ev_tupOf (ev_v rfl) r ev_c ev_c (by show (1 : Int) ≤ ((2 : Nat) : Int); decide) (by show ((2 : Nat) : Int) ≤ 6; decide))
  -- many = len(value[0])
  refine q_asg (v := .int ((2 : Nat) : Int)) (ev_lenT (er_ixT (i := 0) mTN.m ((hv0 rfl).mono e1) ev_c (get_tab (by omega)))) fun H2 e2 => ?_
  -- for item in value
  refine q_forT (ev_v rfl) (.inl (.inl (e2 a _ (e1 a _ ha)))) (fun i σ' H' => ∃ y, σ' = [some (.ref a), some (.int 2), y, none, none] ∧ Ex H H') (fun H3 e3 => ⟨none, rfl, (e1.trans e2).trans e3⟩) (fun i σ' H' _ ⟨_, _, e⟩ => .inl (.inl (e a _ ha))) (fun i x σ' H' hi ⟨y, es, e⟩ => ?_) (fun σ' H' ⟨y, es, e⟩ => ?_)
  · subst es
    obtain ⟨l, hl, rl⟩ := pr_getL hp hi
    obtain ⟨j, hj, rfl⟩ := mem_tab (List.mem_of_getElem? hl)
    have rl' := mTN.m _ _ _ _ e rl
    have hlenE : ∀ {σ : L2.St} {H1 : Hp}, σ[0]? = some (some (V.ref a)) → Ex H H1 → Ev (tOp (rI0 fun i j => V.int (i - j)) (tCB (rLenS K) (tCons (tVar 0) tNil)) (tC (V.int 1))) σ H1 (.int ((n : Int) - 1)) := fun h e5 =>
      ev_is (ev_op (ev_lenT ((hv0 h).mono e5)) ev_c rv_I0) (by rw [len_tab])
    refine s_when (b := false) (σ := [some (.ref a), some (.int 2), some x, none, none]) (et_or (et_test (ev_neN (a := 2) (b := 2) (ev_lenT (er_var mTN.m rfl rl')) (ev_v rfl))) fun _ => et_not (et_B (ev_is (ev_all (er_lcT1 (K := K) (R := NatR) (S := BlR) (fun _ => true) monT_nat.m monT_bl (er_var mTN.m rfl rl') (by show 2 ≤ 40000; decide) (fun _ => rfl)
      (fun y u H1 e5 hy r => ?_))) (by rw [all_true _ fun _ _ => rfl])))) (fun z => absurd z Bool.noConfusion) (fun _ H5 e5 => ⟨_, rfl, e.trans e5⟩)
    cases r
    have hyn : y < n := by
      rcases List.mem_cons.mp hy with rfl | hy
      · exact tab.pb j hj
      · rw [List.mem_singleton] at hy
        rw [hy]
        exact tab.qb j hj
    exact er_bl (ev_whole (ev_v rfl) ev_c (hlenE rfl (e.trans e5)) (by omega) (by omega))
  · subst es
    -- return all(..)
    refine (ev_is (ev_all (er_lcR (n := 2) (S := BlR) (fun _ => true) monT_bl (ev_v rfl) (by decide) (fun _ => rfl) (fun j H1 e5 hj => er_bl (ev_is (ev_eqN (a := n) (b := n) (ev_is (ev_lenSetL (w := w) (ns := (tabD n p q).map fun l => l.getD j 0) (er_lcT1 (K := K) (R := TN) (S := NatR) (fun l => l.getD j 0) mTN.m monT_nat ((hv0 rfl).mono (e.trans e5)) (by rw [len_tab]; omega) (fun _ => rfl) (fun l u H6 e6 hl r => ?_)) (by rw [List.length_map, len_tab]; omega)) ?_) (ev_is (ev_lenT ((hv0 rfl).mono (e.trans e5))) (by rw [len_tab]))) (by rw [decide_eq_true rfl]))))) (w := .bl true) (by rw [all_true _ fun _ _ => rfl])) H' (Ex.refl H') _ fun H7 e7 => k H7 (e.trans e7)
    · obtain ⟨i, hi, rfl⟩ := mem_tab hl
      refine er_ixT (i := j) monT_nat.m (er_var mTN.m rfl r) (ev_v rfl) ?_
      match j, hj with
      | 0, _ => rfl
      | 1, _ => rfl
    · have hnd : ((tabD n p q).map fun l => l.getD j 0).Nodup := by
        unfold tabD
        rw [List.map_map]
        match j, hj with
        | 0, _ => exact nodup_map_range.mpr tab.pi
        | 1, _ => exact nodup_map_range.mpr tab.qi
      rw [(dc_nodup _).mpr hnd, List.length_map, len_tab]
end
end Rg
/-! Tables and choices: what the package's first module does. -/
namespace Rg
open PySem L2 Evl RgR RgM
/-! ### loops and dicts -/
section
variable {K : PySem.W.Frag} {σ : L2.St} {H H' : Hp} {ta tb te tl : TE} {D : Ends} {tu tz : TS} {g : TG} {x y z : V}
/-- for i, x in enumerate(t) -/
theorem s_forE {a : Addr} {us : List V} (h : Ev tl σ H (.ref a)) (ha : H a = some (.tup us)) (Pv : Nat → L2.St → Hp → Prop) (h0 : ∀ H1, Ex H H1 → Pv 0 σ H1) (hl : ∀ i σ' H', Pv i σ' H' → Ex H H')
    (hs : ∀ (i : Nat) u T σ' H', us[i]? = some u → Pv i σ' H' → H' T = none → g (.ref T) σ' (upd H' T (.tup [.int (i : Int), u])) fun σ2 H2 => tu { D with nx := Pv (i + 1), ct := Pv (i + 1), bk := D.nx } σ2 H2) (hd : ∀ σ' H', Pv us.length σ' H' → D.nx σ' H') :
    tFor (iEnumT K (tCons tl tNil)) g tu D σ H := h H (Ex.refl H) _ fun H1 e1 => by
  refine ⟨a, us, rfl, .inl (.inl (e1 a _ ha)), fun i m σ' H' => m = us.length - i ∧ i ≤ us.length ∧ Pv i σ' H', ⟨us.length, rfl, Nat.zero_le _, h0 H1 e1⟩, ?_⟩
  rintro i m σ' H' ⟨rfl, hi, p⟩
  have ha' := hl i σ' H' p a _ ha
  by_cases hlt : i < us.length
  · refine .inr ⟨⟨us, us[i], .inl (.inl ha'), List.getElem?_eq_getElem hlt⟩, Pv (i + 1), fun σ5 H5 p5 => ⟨us.length - (i + 1), by omega, rfl, hlt, p5⟩, fun y H5 hy => ?_⟩
    obtain ⟨T, u, rfl, nT, rfl, hu⟩ := hy
    exact hs i u T σ' H' (hu us (.inl (.inl ha'))) p nT
  · have ei : i = us.length := by omega
    subst ei
    exact .inl ⟨⟨us, .inl (.inl ha'), Nat.le_refl _⟩, hd σ' H' p⟩
theorem q_forE {a : Addr} {us : List V} (h : Ev tl σ H (.ref a)) (ha : H a = some (.tup us)) (Pv : Nat → L2.St → Hp → Prop) (h0 : ∀ H1, Ex H H1 → Pv 0 σ H1) (hl : ∀ i σ' H', Pv i σ' H' → Ex H H')
    (hs : ∀ (i : Nat) u T σ' H', us[i]? = some u → Pv i σ' H' → H' T = none → g (.ref T) σ' (upd H' T (.tup [.int (i : Int), u])) fun σ2 H2 => tu { D with nx := Pv (i + 1), ct := Pv (i + 1), bk := tz D } σ2 H2) (hd : ∀ σ' H', Pv us.length σ' H' → tz D σ' H') :
    tSeq (tFor (iEnumT K (tCons tl tNil)) g tu) tz D σ H := s_forE (D := { D with nx := tz D }) h ha Pv h0 hl hs hd
def kN (n : Nat) : Key := Sum.inl (n : Int)
theorem kN_inj {a b : Nat} (h : kN a = kN b) : a = b := by
  have e := Sum.inl.inj h
  exact Int.ofNat_inj.mp e
theorem et_din {d : Addr} {kvs : List (Key × V)} {m : Nat} (h : Ev ta σ H (.int (m : Int))) (k : Ev tb σ H (.ref d)) (hd : H d = some (.dK kvs)) : EvT (tB (tDIn ta tb)) σ H (valV kvs (kN m)).isSome := fun H1 e Q q =>
  h H1 e _ fun H2 e2 => k H2 (e.trans e2) _ fun H3 e3 => ⟨d, valV kvs (kN m), rfl, DGet.k (k := kN m) (((e.trans e2).trans e3) d _ hd), _, rfl, q H3 (e2.trans e3)⟩
theorem et_dnin {d : Addr} {kvs : List (Key × V)} {m : Nat} (h : Ev ta σ H (.int (m : Int))) (k : Ev tb σ H (.ref d)) (hd : H d = some (.dK kvs)) : EvT (tB (tDNotIn ta tb)) σ H (!(valV kvs (kN m)).isSome) := fun H1 e Q q =>
  h H1 e _ fun H2 e2 => k H2 (e.trans e2) _ fun H3 e3 => ⟨d, valV kvs (kN m), rfl, DGet.k (k := kN m) (((e.trans e2).trans e3) d _ hd), _, rfl, q H3 (e2.trans e3)⟩
theorem ev_dget {d : Addr} {kvs : List (Key × V)} {m : Nat} {v : V} (k : Ev tb σ H (.ref d)) (h : Ev ta σ H (.int (m : Int))) (hd : H d = some (.dK kvs)) (hv : valV kvs (kN m) = some v) : Ev (tDGet tb ta) σ H v := fun H1 e Q q =>
  k H1 e _ fun H2 e2 => h H2 (e.trans e2) _ fun H3 e3 => ⟨d, v, rfl, by
    have z := DGet.k (k := kN m) (((e.trans e2).trans e3) d _ hd)
    rw [hv] at z
    exact z, q H3 (e2.trans e3)⟩
/-- {**d, k: v} of names -/
theorem up_go {Q : VK} {i j l : Nat} {d : Addr} {kvs : List (Key × V)} {k : Key} {u : V} (hi : σ[i]? = some (some (.ref d))) (hd : H d = some (.dK kvs)) (hj : σ[j]? = some (some (kV k))) (hl : σ[l]? = some (some u)) (hz : kvs.length < 100000)
    (q : ∀ p H2, Ex H H2 → H2 p = some (.dK (putK kvs k u)) → Q (.ref p) H2) : tUp (tVar i) (tVar j) (tVar l) σ H Q := fun p np => by
  have ndp : d ≠ p := ne_of_none hd np
  refine ⟨.ref d, hi, d, kvs, rfl, upd_same, ndp, .inl (by rw [upd_ne ndp]; exact hd), fun r nr => ?_⟩
  have npr : p ≠ r := fun e => by
    rw [e, upd_same] at nr
    cases nr
  have nr0 : H r = none := by
    rw [upd_ne npr.symm, upd_ne npr.symm] at nr
    exact nr
  refine ⟨kV k, hj, u, hl, k, rfl, upd_same, by rw [upd_ne npr, upd_same], sz_lt hz, q p _ (fun b o e => ?_) upd_same⟩
  have nbp : b ≠ p := ne_of_none e np
  have nbr : b ≠ r := ne_of_none e nr0
  rw [upd_ne nbp, upd_ne nbr, upd_ne nbr, upd_ne nbp, upd_ne nbp]
  exact e
end
section
variable {P : Program} {w : World} {K : PySem.W.Frag} {mg : Str → Option Value} {base : Heap}
/-- of a table and a choice -/
def spTC (R : Nat → (Nat → Nat) → (Nat → Nat) → List Nat → Hp → V → Prop) : Sp := fun vs H Q _ => ∃ (v u : V) (n : Nat) (p q s t : Nat → Nat) (cs : List Nat), vs = [v, u] ∧ TTN H v (tabD n p q) ∧ Tab2 n p q s t ∧ 1 ≤ n ∧ n ≤ 20 ∧ TN H u cs ∧ cs.length = n ∧ (∀ x ∈ cs, x < 2) ∧
  ∀ v' H', Ex H H' → R n p q cs H' v' → Q v' H'
def isV (r : V) : Nat → (Nat → Nat) → (Nat → Nat) → List Nat → Hp → V → Prop := fun _ _ _ _ _ v => v = r
theorem spTC_len {R : Nat → (Nat → Nat) → (Nat → Nat) → List Nat → Hp → V → Prop} : ∀ vs H Q E, spTC R vs H Q E → vs.length = 2 := fun vs H Q E h => by
  obtain ⟨v, u, n, p, q, s, t, cs, rfl, _⟩ := h
  rfl
section
variable {σ : L2.St} {H : Hp} {ta tb : TE} {v u : V} {n : Nat} {p q s t : Nat → Nat} {cs : List Nat}
theorem ev_tabV {r : V} (h : Ev ta σ H v) (hv : TTN H v (tabD n p q)) (T : Tab2 n p q s t) (h1 : 1 ≤ n) (h20 : n ≤ 20) : Ev (tCall (spTabV r) [] E0 (tCons ta tNil)) σ H r :=
  ev_call (a1 h) fun H1 e Q k => ⟨v, n, p, q, s, t, rfl, mTTN.m _ _ _ _ e hv, T, h1, h20, fun H2 e2 => k H2 e2⟩
theorem ev_tcV {r : V} (h : Ev ta σ H v) (hu : Ev tb σ H u) (hv : TTN H v (tabD n p q)) (T : Tab2 n p q s t) (h1 : 1 ≤ n) (h20 : n ≤ 20) (hc : TN H u cs) (hl : cs.length = n) (h2 : ∀ x ∈ cs, x < 2) : Ev (tCall (spTC (isV r)) [] E0 (tCons ta (tCons tb tNil))) σ H r :=
  ev_call (a2 h hu) fun H1 e Q k => ⟨v, u, n, p, q, s, t, cs, rfl, mTTN.m _ _ _ _ e hv, T, h1, h20, mTN.m _ _ _ _ e hc, hl, h2, fun v' H2 e2 ev => by
    cases ev
    exact k H2 e2⟩
end
/-! ### fits_choice -/
theorem ok_fits_choice {f : Addr} {fd : FuncData} (F : Fun K "fits_choice" "fits_choice" s_fits_choice f fd) (T : Bl mg) (C1 : Cal P w K mg base 1 "is_tuple_of" ["value", "low", "high"] spTupleOf) (C2 : Cal P w K mg base 1 "is_whole" ["value", "low", "high"] spWhole) :
    FnOk P w K mg base CX0 2 f fd ["table", "value"] (spTC (isV (.bl true))) := by
  refine F.ok sc_fits_choice spTC_len (fun cdv A outer s H vs Q E hr h => ?_)
  obtain ⟨v, u, n, p, q, sf, tf, cs, rfl, hv, tab, h1, h20, hu, hl, h2, k⟩ := h
  have nd := sc_fits_choice.nd
  refine ⟨_, pss_cons (ps_if (pt_not (pt_val (pe_cal C1 hr (by rfl) (pa_cons (pv 1) (pa_cons (pe_callB (cLen K) (by rfl) T.b_len PySem.boot_len (pa_cons (pv 0) pa_nil)) (pa_cons (pe_callB (cLen K) (by rfl) T.b_len PySem.boot_len (pa_cons (pv 0) pa_nil)) pa_nil)))))) (pss_one (ps_ret pe_bl)) pss_nil)
    (pss_one (ps_ret (pe_callB (cAll K) (by rfl) T.b_all (by decide +kernel) (pa_cons (pe_lc (own := [("way", 2)]) (g := gName 2) (tt := tYes) rfl nd (piT K (pv 1)) (blkOk_by (N := N_fits_choice) (sc := defScope s_fits_choice) (by decide +kernel)) (fun _ _ _ _ _ => pg_name (i := 2) nd rfl (Or.inl rfl)) (fun _ _ _ _ _ => pts_nil)
      (fun _ _ _ _ _ => pe_cal C2 hr (by rfl) (pa_cons (pv 2) (pa_cons pe_int (pa_cons (pe_op op_sub (pe_callB (cLen K) (by rfl) T.b_len PySem.boot_len (pa_cons (pe_ix (iT K) (pv 0) pe_int (fun _ _ => rfl)) pa_nil)) pe_int) pa_nil))))) pa_nil)))), ?_⟩
  have hv0 : ∀ {σ : L2.St}, σ[0]? = some (some v) → Er TTN (tVar 0) σ H (tabD n p q) := fun h => er_var mTTN.m h hv
  refine q_when (b := false) (σ := [some v, some u, none]) (et_not (et_B (ev_tupOf (ev_v rfl) hu (ev_lenT (hv0 rfl)) (ev_lenT (hv0 rfl)) (by rw [len_tab, hl]; exact Int.le_refl _) (by rw [len_tab, hl]; exact Int.le_refl _)))) (fun z => absurd z Bool.noConfusion) (fun _ H1 e1 => ?_)
  refine ev_is (w := .bl true) (ev_all (er_lcT1 (K := K) (σ := [some v, some u, none]) (R := NatR) (S := BlR) (fun _ => true) monT_nat.m monT_bl (er_var mTN.m rfl (mTN.m _ _ _ _ e1 hu)) (by omega) (fun _ => rfl) (fun c z H2 e2 hc r => ?_))) (by rw [all_true _ fun _ _ => rfl]) H1 (Ex.refl H1) _ fun H7 e7 => k _ H7 (e1.trans e7) rfl
  cases r
  have hc2 := h2 c hc
  exact er_bl (ev_whole (ev_v rfl) ev_c (ev_is (ev_op (ev_lenT (er_ixT (K := K) (i := 0) mTN.m ((hv0 rfl).mono (e1.trans e2)) ev_c (get_tab (by omega)))) ev_c rv_I0) (w := .int 1) rfl) (by omega) (by omega))
/-! ### need_.. -/
theorem ok_need_table {f : Addr} {fd : FuncData} (F : Fun K "need_table" "need_table" s_need_table f fd) (C1 : Cal P w K mg base 2 "fits_table" ["value"] (spTabV (.bl true))) : FnOk P w K mg base CX0 3 f fd ["value"] (spTabV .non) := by
  refine F.ok sc_need_table spTabV_len (fun cdv A outer s H vs Q E hr h => ?_)
  obtain ⟨v, n, p, q, sf, tf, rfl, hv, tab, h1, h20, k⟩ := h
  refine ⟨_, pss_one (ps_if (pt_not (pt_val (pe_cal C1 hr (by rfl) (pa_cons (pv 0) pa_nil)))) pss_never pss_nil), ?_⟩
  exact s_when (b := false) (σ := [some v]) (et_not (et_B (ev_tabV (ev_v rfl) hv tab h1 h20))) (fun z => absurd z Bool.noConfusion) (fun _ H1 e1 => k H1 e1)
theorem ok_is_table {f : Addr} {fd : FuncData} (F : Fun K "is_table" "is_table" s_is_table f fd) (C1 : Cal P w K mg base 2 "fits_table" ["value"] (spTabV (.bl true))) : FnOk P w K mg base CX0 3 f fd ["value"] (spTabV (.bl true)) := by
  refine F.ok sc_is_table spTabV_len (fun cdv A outer s H vs Q E hr h => ?_)
  obtain ⟨v, n, p, q, sf, tf, rfl, hv, tab, h1, h20, k⟩ := h
  refine ⟨_, pss_one (ps_ret (pe_cal C1 hr (by rfl) (pa_cons (pv 0) pa_nil))), ?_⟩
  exact ev_tabV (σ := [some v]) (ev_v rfl) hv tab h1 h20 H (Ex.refl H) _ fun H1 e1 => k H1 e1
theorem ok_need_choice {f : Addr} {fd : FuncData} (F : Fun K "need_choice" "need_choice" s_need_choice f fd) (C1 : Cal P w K mg base 2 "fits_choice" ["table", "value"] (spTC (isV (.bl true)))) : FnOk P w K mg base CX0 3 f fd ["table", "value"] (spTC (isV .non)) := by
  refine F.ok sc_need_choice spTC_len (fun cdv A outer s H vs Q E hr h => ?_)
  obtain ⟨v, u, n, p, q, sf, tf, cs, rfl, hv, tab, h1, h20, hu, hl, h2, k⟩ := h
  refine ⟨_, pss_one (ps_if (pt_not (pt_val (pe_cal C1 hr (by rfl) (pa_cons (pv 0) (pa_cons (pv 1) pa_nil))))) pss_never pss_nil), ?_⟩
  exact s_when (b := false) (σ := [some v, some u]) (et_not (et_B (ev_tcV (ev_v rfl) (ev_v rfl) hv tab h1 h20 hu hl h2))) (fun z => absurd z Bool.noConfusion) (fun _ H1 e1 => k _ H1 e1 rfl)
theorem ok_need_two {f : Addr} {fd : FuncData} (F : Fun K "need_two" "need_two" s_need_two f fd) (T : Bl mg) (C1 : Cal P w K mg base 3 "need_table" ["value"] (spTabV .non)) : FnOk P w K mg base CX0 4 f fd ["value"] (spTabV .non) := by
  refine F.ok sc_need_two spTabV_len (fun cdv A outer s H vs Q E hr h => ?_)
  obtain ⟨v, n, p, q, sf, tf, rfl, hv, tab, h1, h20, k⟩ := h
  refine ⟨_, pss_cons (ps_expr (pe_cal C1 hr (by rfl) (pa_cons (pv 0) pa_nil)))
    (pss_one (ps_if (pt_cmpR op_ne (pe_callB (cLen K) (by rfl) T.b_len PySem.boot_len (pa_cons (pe_ix (iT K) (pv 0) pe_int (fun _ _ => rfl)) pa_nil)) pe_int (nomark _)) pss_never pss_nil)), ?_⟩
  refine q_drop (σ := [some v]) (ev_tabV (ev_v rfl) hv tab h1 h20) fun H1 e1 => ?_
  exact s_when (b := false) (σ := [some v]) (et_test (ev_neN (a := 2) (b := 2) (ev_lenT (er_ixT (K := K) (i := 0) mTN.m (er_var mTTN.m rfl (mTTN.m _ _ _ _ e1 hv)) ev_c (get_tab (by omega)))) ev_c)) (fun z => absurd z Bool.noConfusion) (fun _ H2 e2 => k H2 (e1.trans e2))
/-! ### nexts_by -/
def gives (g : Nat → (Nat → Nat) → (Nat → Nat) → List Nat → List Nat) : Nat → (Nat → Nat) → (Nat → Nat) → List Nat → Hp → V → Prop := fun n p q cs H v => TN H v (g n p q cs)
theorem zip_nx {n : Nat} {p q : Nat → Nat} {cs : List Nat} (hl : cs.length = n) (h2 : ∀ x ∈ cs, x < 2) : List.zipWith (fun l c => l.getD c 0) (tabD n p q) cs = nxL n p q cs := by
  apply List.ext_getElem?
  intro i
  unfold nxL
  rw [List.getElem?_zipWith, List.getElem?_map]
  by_cases hi : i < n
  · have hic : i < cs.length := by omega
    rw [get_tab hi, List.getElem?_range hi, List.getElem?_eq_getElem hic]
    show some (([p i, q i] : List Nat).getD cs[i] 0) = some (nx p q cs i)
    have hb := h2 _ (List.getElem_mem hic)
    have e : cs.getD i 0 = cs[i] := by rw [List.getD_eq_getElem?_getD, List.getElem?_eq_getElem hic] <;> rfl
    unfold nx
    rw [e]
    have hz : cs[i] = 0 ∨ cs[i] = 1 := by omega
    rcases hz with z | z <;> rw [z] <;> rfl
  · have e1 : (tabD n p q)[i]? = none := List.getElem?_eq_none (by rw [len_tab]; omega)
    have e2 : (List.range n)[i]? = none := List.getElem?_eq_none (by rw [List.length_range]; omega)
    rw [e1, e2]
    rfl
theorem ok_nexts_by {f : Addr} {fd : FuncData} (F : Fun K "nexts_by" "nexts_by" s_nexts_by f fd) (T : Bl mg) : FnOk P w K mg base CX0 1 f fd ["table", "choice"] (spTC (gives nxL)) := by
  refine F.ok sc_nexts_by spTC_len (fun cdv A outer s H vs Q E hr h => ?_)
  obtain ⟨v, u, n, p, q, sf, tf, cs, rfl, hv, tab, h1, h20, hu, hl, h2, k⟩ := h
  have nd := sc_nexts_by.nd
  refine ⟨_, pss_one (ps_ret (pe_callTy (cTup K) (by rfl) T.b_tuple (by decide +kernel) (pa_cons (pe_lc (own := [("item", 2), ("way", 3)]) (g := gTup K 2 (gCons (gName 2) (gCons (gName 3) gNil))) (tt := tYes) rfl nd (piZ K (by rfl) T.b_zip (pa_cons (pv 0) (pa_cons (pv 1) pa_nil)))
    (blkOk_by (N := N_nexts_by) (sc := defScope s_nexts_by) (by decide +kernel)) (fun _ _ _ _ _ => gT2 K rfl (pgs_cons (pg_name (i := 2) nd rfl (Or.inl rfl)) (pgs_cons (pg_name (i := 3) nd rfl (Or.inl rfl)) pgs_nil))) (fun _ _ _ _ _ => pts_nil)
      (fun _ _ _ _ _ => pe_ix (iT K) (pv 2) (pv 3) (fun _ _ => rfl))) pa_nil))), ?_⟩
  refine er_tupOf (K := K) (σ := [some v, some u, none, none]) monT_nat.m (er_lcZ (K := K) (R := TN) (U := NatR) (S := NatR) (fun l c => l.getD c 0) mTN.m monT_nat.m monT_nat (er_var mTTN.m rfl hv) (er_var mTN.m rfl hu) (by rw [len_tab, hl]) (by rw [len_tab]; omega) (fun _ _ => rfl) (fun i l c vl vc H1 e1 hxl hxc rl rc => ?_)) H (Ex.refl H) _ fun v' H7 e7 r7 => k v' H7 e7 (by rw [zip_nx hl h2] at r7; exact r7)
  cases rc
  have hc2 := h2 c (List.mem_of_getElem? hxc)
  obtain ⟨i, hi, rfl⟩ := mem_tab (List.mem_of_getElem? hxl)
  refine er_ixT (i := c) monT_nat.m (er_var mTN.m rfl rl) (ev_v rfl) ?_
  match c, hc2 with
  | 0, _ => rfl
  | 1, _ => rfl
end
end Rg
/-! meeting_in, two_that_meet, power. -/
namespace Rg
open PySem L2 Evl RgR RgM
section
variable {P : Program} {w : World} {K : PySem.W.Frag} {mg : Str → Option Value} {base : Heap}
/-- what tells of meeting -/
def Met (ns : List Nat) (v : V) : Prop := (v = .non ∧ ns.Nodup) ∨ (∃ a, v = .ref a) ∧ ¬ ns.Nodup
def spMeet : Sp := fun vs H Q _ => ∃ (v : V) (ns : List Nat), vs = [v] ∧ TN H v ns ∧ ns.length ≤ 20 ∧ ∀ v' H', Ex H H' → Met ns v' → Q v' H'
theorem nodup_snoc {l : List Nat} {x : Nat} (h : l.Nodup) (hx : x ∉ l) : (l ++ [x]).Nodup := List.nodup_append.mpr ⟨h, by simp, fun a ha b hb e => by
  rw [List.mem_singleton] at hb
  exact hx (hb ▸ e ▸ ha)⟩
theorem not_nodup {ns : List Nat} {i x : Nat} (h : ns[i]? = some x) (hx : x ∈ ns.take i) : ¬ ns.Nodup := fun hn => by
  have e : ns = ns.take i ++ ns.drop i := (List.take_append_drop i ns).symm
  rw [e] at hn
  have h3 := (List.nodup_append.mp hn).2.2 x hx x (by
    have hl := (List.getElem?_eq_some_iff.mp h).1
    rw [List.drop_eq_getElem_cons hl]
    have : ns[i] = x := (List.getElem?_eq_some_iff.mp h).2
    rw [this]
    exact List.mem_cons_self)
  exact h3 rfl
theorem ok_meeting_in {f : Addr} {fd : FuncData} (F : Fun K "meeting_in" "meeting_in" s_meeting_in f fd) (T : Bl mg) : FnOk P w K mg base CX0 1 f fd ["nexts"] spMeet := by
  refine F.ok sc_meeting_in (fun vs H Q E h => ?_) (fun cdv A outer s H vs Q E hr h => ?_)
  · obtain ⟨v, ns, rfl, _⟩ := h
    rfl
  obtain ⟨v, ns, rfl, hv, h20, k⟩ := h
  have nd := sc_meeting_in.nd
  have hu := hu_of hr
  refine ⟨_, pss_cons (ps_set (i := 1) nd rfl (Or.inl rfl) pe_dnewK)
    (pss_cons (ps_for PassesOwn.never rfl (piE K (by rfl) T.b_enumerate (pa_cons (pv 0) pa_nil)) (gT2 K rfl (pgs_cons (pg_name (i := 2) nd rfl (Or.inl rfl)) (pgs_cons (pg_name (i := 3) nd rfl (Or.inl rfl)) pgs_nil)))
      (pss_cons (ps_if (pt_cmp (pc_din hu (pv 3) (pv 1))) (pss_one (ps_ret (pe_tup (pa_cons (pe_dget hu (pv 1) (pv 3) (fun _ _ => rfl)) (pa_cons (pv 2) pa_nil))))) pss_nil)
      (pss_one (ps_set (i := 1) nd rfl (Or.inl rfl) (pe_up (pv 1) (pv 3) (pv 2))))))
    (pss_one (ps_ret pe_non))), ?_⟩
  obtain ⟨a, rfl, ha⟩ := tn_v hv
  intro d hd
  have eB : Ex H (upd H d (.dK [])) := Ex.new hd
  refine q_forE (σ := [some (.ref a), some (.ref d), none, none]) (H := upd H d (.dK [])) (ev_v rfl) (eB a _ ha)
    (fun i σ' H' => ∃ c y2 y3 kvs, σ' = [some (.ref a), some (.ref c), y2, y3] ∧ Ex (upd H d (.dK [])) H' ∧ H' c = some (.dK kvs) ∧ kvs.length ≤ i ∧ (ns.take i).Nodup ∧ ∀ m : Nat, (valV kvs (kN m)).isSome = true ↔ m ∈ ns.take i) ?_ ?_ ?_ ?_
  · intro H1 e1
    exact ⟨d, none, none, [], rfl, e1, e1 d _ upd_same, Nat.le_refl 0, List.nodup_nil, fun m => by simp [valV]⟩
  · rintro i σ' H' ⟨_, _, _, _, _, e, _⟩
    exact e
  · rintro i u T' σ' H' hi ⟨c, y2, y3, kvs, rfl, e, hc, hz, hn, hm⟩ nT
    have hi20 : i < 20 := by
      have hl := (List.getElem?_eq_some_iff.mp hi).1
      rw [len_vN] at hl
      omega
    obtain ⟨x, hx, rfl⟩ : ∃ x : Nat, ns[i]? = some x ∧ u = .int (x : Int) := by
      unfold vN at hi
      rw [List.getElem?_map] at hi
      cases ex : ns[i]? with
      | none =>
        rw [ex] at hi
        cases hi
      | some x =>
        rw [ex] at hi
        exact ⟨x, rfl, (Option.some.inj hi).symm⟩
    have eT := Ex.new (o := HO.tup [.int (i : Int), .int (x : Int)]) nT
    have etake : ns.take (i + 1) = ns.take i ++ [x] := by
      rw [List.take_add_one, hx]
      rfl
    refine ⟨T', _, rfl, .inl (.inl upd_same), rfl, _, _, rfl, _, _, rfl, rfl, ?_⟩
    refine q_when (b := (valV kvs (kN x)).isSome) (σ := [some (.ref a), some (.ref c), some (.int (i : Int)), some (.int (x : Int))]) (et_din (m := x) (ev_v rfl) (ev_v rfl) (eT c _ hc)) (fun hb H1 e1 => ?_) (fun hb H1 e1 => ?_)
    · have hxm := (hm x).mp hb
      obtain ⟨v0, hv0⟩ := Option.isSome_iff_exists.mp hb
      refine ev_dget (σ := [some (.ref a), some (.ref c), some (.int (i : Int)), some (.int (x : Int))]) (m := x) (ev_v rfl) (ev_v rfl) (e1 c _ (eT c _ hc)) hv0 H1 (Ex.refl H1) _ fun H2 e2 => ⟨_, rfl, by show 2 ≤ sizeLine; decide, fun p np => ?_⟩
      exact k _ _ ((((eB.trans e).trans eT).trans e1).trans (e2.trans (Ex.new np))) (.inr ⟨⟨p, rfl⟩, not_nodup hx hxm⟩)
    · have hxm : x ∉ ns.take i := fun z => by
        have := (hm x).mpr z
        rw [hb] at this
        cases this
      refine up_go (σ := [some (.ref a), some (.ref c), some (.int (i : Int)), some (.int (x : Int))]) (i := 1) (j := 3) (l := 2) (k := kN x) (u := .int (i : Int)) rfl (e1 c _ (eT c _ hc)) rfl rfl (by omega) fun p H2 e2 hp => ?_
      refine ⟨p, _, _, _, rfl, ((e.trans eT).trans e1).trans e2, hp, ?_, by rw [etake]; exact nodup_snoc hn hxm, fun m => ?_⟩
      · have h1 := length_putK kvs (kN x) (.int (i : Int))
        omega
      · rw [valV_put, etake, List.mem_append, List.mem_singleton]
        by_cases z : m = x
        · subst z
          rw [if_pos rfl]
          simp
        · rw [if_neg fun q => z (kN_inj q), hm m]
          exact ⟨.inl, fun q => q.elim id fun q => absurd q z⟩
  · rintro σ' H' ⟨c, y2, y3, kvs, rfl, e, hc, hz, hn, hm⟩
    rw [len_vN, List.take_length] at hn
    exact k _ _ (eB.trans e) (.inl ⟨rfl, hn⟩)
/-! ### two_that_meet -/
def meets : Nat → (Nat → Nat) → (Nat → Nat) → List Nat → Hp → V → Prop := fun n p q cs _ v => Met (nxL n p q cs) v
theorem len_nxL (n : Nat) (p q : Nat → Nat) (cs : List Nat) : (nxL n p q cs).length = n := by
  unfold nxL
  rw [List.length_map, List.length_range]
theorem ok_two_that_meet {f : Addr} {fd : FuncData} (F : Fun K "two_that_meet" "two_that_meet" s_two_that_meet f fd) (C1 : Cal P w K mg base 3 "need_table" ["value"] (spTabV .non)) (C2 : Cal P w K mg base 3 "need_choice" ["table", "value"] (spTC (isV .non)))
    (C3 : Cal P w K mg base 1 "nexts_by" ["table", "choice"] (spTC (gives nxL))) (C4 : Cal P w K mg base 1 "meeting_in" ["nexts"] spMeet) : FnOk P w K mg base CX0 4 f fd ["table", "choice"] (spTC meets) := by
  refine F.ok sc_two_that_meet spTC_len (fun cdv A outer s H vs Q E hr h => ?_)
  obtain ⟨v, u, n, p, q, sf, tf, cs, rfl, hv, tab, h1, h20, hu, hl, h2, k⟩ := h
  have hr1 : Room 1 _ := hr.mono (by decide)
  refine ⟨_, pss_cons (ps_expr (pe_cal C1 hr (by rfl) (pa_cons (pv 0) pa_nil))) (pss_cons (ps_expr (pe_cal C2 hr (by rfl) (pa_cons (pv 0) (pa_cons (pv 1) pa_nil))))
    (pss_one (ps_ret (pe_cal C4 hr1 (by rfl) (pa_cons (pe_cal C3 hr1 (by rfl) (pa_cons (pv 0) (pa_cons (pv 1) pa_nil))) pa_nil))))), ?_⟩
  refine q_drop (σ := [some v, some u]) (ev_tabV (ev_v rfl) hv tab h1 h20) fun H1 e1 => ?_
  refine q_drop (σ := [some v, some u]) (ev_tcV (ev_v rfl) (ev_v rfl) (mTTN.m _ _ _ _ e1 hv) tab h1 h20 (mTN.m _ _ _ _ e1 hu) hl h2) fun H2 e2 => ?_
  have e12 := e1.trans e2
  have er : Er TN (tCall (spTC (gives nxL)) [] E0 (tCons (tVar 0) (tCons (tVar 1) tNil))) [some v, some u] H2 (nxL n p q cs) := er_call (a2 (ev_v rfl) (ev_v rfl)) fun H3 e3 Q k => ⟨v, u, n, p, q, sf, tf, cs, rfl, mTTN.m _ _ _ _ (e12.trans e3) hv, tab, h1, h20, mTN.m _ _ _ _ (e12.trans e3) hu, hl, h2, fun v' H4 e4 r => k v' H4 e4 r⟩
  refine er H2 (Ex.refl H2) _ fun v' H3 e3 r => ?_
  exact ⟨v', nxL n p q cs, rfl, r, by rw [len_nxL]; exact h20, fun v'' H4 e4 m => k v'' H4 ((e12.trans e3).trans e4) m⟩
/-! ### power -/
def spPow : Sp := fun vs H Q _ => ∃ m : Nat, vs = [.int (m : Int)] ∧ m ≤ 40 ∧ ∀ H', Ex H H' → Q (.int ((2 ^ m : Nat) : Int)) H'
theorem ok_power {f : Addr} {fd : FuncData} (F : Fun K "power" "power" s_power f fd) (T : Bl mg) : FnOk P w K mg base CX0 1 f fd ["many"] spPow := by
  refine F.ok sc_power (fun vs H Q E h => ?_) (fun cdv A outer s H vs Q E hr h => ?_)
  · obtain ⟨m, rfl, _⟩ := h
    rfl
  obtain ⟨m, rfl, h40, k⟩ := h
  have nd := sc_power.nd
  refine ⟨_, pss_cons (ps_set (i := 1) nd rfl (Or.inl rfl) pe_int) (pss_cons (ps_for PassesOwn.never rfl (pi_range1 (by rfl) T.b_range (pa_cons (pv 0) pa_nil)) (pg_name (i := 2) nd rfl (Or.inl rfl))
    (pss_one (ps_set (i := 1) nd rfl (Or.inl rfl) (pe_op op_mul (pv 1) pe_int)))) (pss_one (ps_ret (pv 1)))), ?_⟩
  refine q_asg (σ := [some (.int (m : Int)), none, none]) (v := .int 1) ev_c fun H1 e1 => ?_
  refine q_forR1 (σ := [some (.int (m : Int)), some (.int 1), none]) (n := (m : Int)) (a1 (ev_v rfl)) (by omega) (fun i σ' H' => ∃ y, σ' = [some (.int (m : Int)), some (.int ((2 ^ i : Nat) : Int)), y] ∧ Ex H H') (fun H2 e2 => ⟨none, rfl, e1.trans e2⟩) (fun i σ' H' hi ⟨y, es, e⟩ => ?_) (fun σ' H' ⟨y, es, e⟩ => ?_)
  · subst es
    refine s_asg (σ := [some (.int (m : Int)), some (.int ((2 ^ i : Nat) : Int)), some (.int (i : Int))]) (v := .int ((2 ^ (i + 1) : Nat) : Int)) (ev_is (ev_op (ev_v rfl) ev_c (rv_I (i := ((2 ^ i : Nat) : Int)) (j := 2) (.inr (by decide)))) ?_) fun H2 e2 => ⟨_, rfl, e.trans e2⟩
    rw [V.int.injEq, Nat.pow_succ]
    omega
  · subst es
    have em : (m : Int).toNat = m := Int.toNat_natCast m
    rw [em]
    exact ⟨_, rfl, k H' e⟩
end
end Rg
/-! What is told: nothing. More rules. -/
namespace Rg
open PySem L2 Evl RgR RgM
/-! ### rules -/
def PkR : Rl Nat := fun H v n => ∃ p u, v = .ref p ∧ H p = some (.tup [.int (n : Int), u])
theorem monT_pk : MonT PkR := fun H H' v n e ⟨p, u, ev, hp⟩ => ⟨p, u, ev, e p _ hp⟩
def AnyR : Rl Unit := fun _ _ _ => True
section
variable {K : PySem.W.Frag} {w : World} {σ : L2.St} {H H' : Hp} {ta tb tc te tl : TE} {t tt : TT} {α β : Type} {R : Rl α} {S : Rl β} {D : Ends} {tz tu : TS}
theorem s_asgE {i : Nat} {x : α} (h : Er R te σ H x) (k : ∀ v H1, Ex H H1 → R H1 v x → D.nx (σ.set i (some v)) H1) : tAsg te (gName i) D σ H := h H (Ex.refl H) _ fun v H1 e r => k v H1 e r
theorem q_asgE {i : Nat} {x : α} (h : Er R te σ H x) (k : ∀ v H1, Ex H H1 → R H1 v x → tz D (σ.set i (some v)) H1) : tSeq (tAsg te (gName i)) tz D σ H := s_asgE (D := { D with nx := tz D }) h k
theorem er_if {b : Bool} {x : α} (h : EvT t σ H b) (h1 : b = true → Er R ta σ H x) (h2 : b = false → Er R tb σ H x) : Er R (tIf t ta tb) σ H x := fun H1 e Q q => h H1 e _ fun H2 e2 => by
  cases b with
  | true => exact h1 rfl H2 (e.trans e2) Q fun v H3 e3 r => q v H3 (e2.trans e3) r
  | false => exact h2 rfl H2 (e.trans e2) Q fun v H3 e3 r => q v H3 (e2.trans e3) r
/-- over nothing -/
theorem er_lcTn {g : TG} {vs : List Nat} (h : Er (TupR R) tl σ H []) : Er (LstR S) (tLc (iTup K tl) g t te vs) σ H [] := fun H0 e Q q => h H0 e _ fun v B eB r => by
  obtain ⟨a, us, rfl, ha, hp⟩ := r
  cases hp
  refine ⟨a, rfl, ⟨[], .inl (.inl ha)⟩, fun D hD => ?_⟩
  refine lc_tup (xs := []) (fun i H' => H' = upd B D (.lst [])) rfl (fun i H' _ p => ?_) (fun i u H' hi p => ?_) fun H' p => ?_
  · rw [p]
    exact .inl (.inl ((Ex.new hD) a _ ha))
  · simp at hi
  · rw [p]
    exact q (.ref D) _ (eB.trans (Ex.new hD)) ⟨D, [], rfl, upd_same, .nil⟩
/-- [e for x in xs for y in x] -/
theorem er_lc2 {xs : List (List α)} {j j1 : Nat} {vs : List Nat} (g : α → β) (mR : MonT R) (mS : MonT S) (h : Er (LstR (TupR R)) tl σ H xs) (hz : xs.flatten.length ≤ 40000) (hw : ∀ x, wipe ((wipe σ vs).set j (some x)) vs = wipe σ vs)
    (hv : ∀ x, ((wipe σ vs).set j (some x))[j]? = some (some x)) (hw1 : ∀ x y, wipe ((wipe ((wipe σ vs).set j (some x)) [j1]).set j1 (some y)) [j1] = wipe ((wipe σ vs).set j (some x)) [j1])
    (he : ∀ u y v H1, Ex H H1 → R H1 v y → Er S te ((wipe ((wipe σ vs).set j (some u)) [j1]).set j1 (some v)) H1 (g y)) :
    Er (LstR S) (tLc2 (iList K tl) (gName j) tYes (iTup K (tVar j)) (gName j1) tYes te vs [j1]) σ H (xs.flatten.map g) := fun H0 e Q q => h H0 e _ fun v B eB r => by
  obtain ⟨a, us, rfl, ha, hp⟩ := r
  refine ⟨a, rfl, ⟨us, .inl (.inl ha)⟩, fun D hD => ?_⟩
  refine ⟨fun i m H' => m = us.length - i ∧ i ≤ us.length ∧ Iv B D S ((xs.take i).flatten.map g) H', ⟨us.length, rfl, Nat.zero_le _, iv_start hD⟩, ?_⟩
  rintro i m H' ⟨rfl, hi, p⟩
  have ha' := p.2.1 a _ ha
  by_cases hlt : i < us.length
  · refine .inr ⟨⟨us, us[i], .inl (.inl ha'), List.getElem?_eq_getElem hlt⟩, fun H5 => Iv B D S ((xs.take (i + 1)).flatten.map g) H5, fun H5 p5 => ⟨us.length - (i + 1), by omega, rfl, hlt, p5⟩, fun y H5 hy => ?_⟩
    obtain ⟨rfl, hu⟩ := hy
    have eu : us[i]? = some y := hu us (.inl (.inl ha'))
    obtain ⟨x, hx, rx⟩ := pr_getL hp eu
    obtain ⟨b, ws, rfl, hb, hq⟩ := rx
    refine ⟨hw _, .ref b, hv _, b, rfl, ⟨ws, .inl (.inl (p.2.1 b _ hb))⟩, ?_⟩
    refine ⟨fun k m H6 => m = ws.length - k ∧ k ≤ ws.length ∧ Iv B D S ((xs.take i).flatten.map g ++ (x.take k).map g) H6, ⟨ws.length, rfl, Nat.zero_le _, by rw [List.take_zero, List.map_nil, List.append_nil]; exact p⟩, ?_⟩
    rintro k m H6 ⟨rfl, hk, p6⟩
    have hb6 := p6.2.1 b _ hb
    have hxl := hq.length
    have et : xs.take (i + 1) = xs.take i ++ [x] := by
      rw [List.take_add_one, hx]
      rfl
    have efl : (xs.take (i + 1)).flatten = (xs.take i).flatten ++ x := by
      rw [et, List.flatten_append]
      simp
    by_cases hkl : k < ws.length
    · refine .inr ⟨⟨ws, ws[k], .inl (.inl hb6), List.getElem?_eq_getElem hkl⟩, fun H7 => Iv B D S ((xs.take i).flatten.map g ++ (x.take (k + 1)).map g) H7, fun H7 p7 => ⟨ws.length - (k + 1), by omega, rfl, hkl, p7⟩, fun z H7 hz7 => ?_⟩
      obtain ⟨rfl, hu7⟩ := hz7
      have ew : ws[k]? = some z := hu7 ws (.inl (.inl hb6))
      obtain ⟨y, hy, ry⟩ := pr_getL hq ew
      have ry6 := mR.m _ _ _ _ p6.2.1 ry
      have eH : Ex H H7 := (e.trans eB).trans p6.2.1
      have hle : ((xs.take (i + 1)).flatten).length ≤ xs.flatten.length := by
        have e2 : xs.flatten = (xs.take (i + 1)).flatten ++ (xs.drop (i + 1)).flatten := by rw [← List.flatten_append, List.take_append_drop]
        rw [e2, List.length_append]
        omega
      rw [efl, List.length_append] at hle
      have hln : ((xs.take i).flatten.map g ++ (x.take k).map g).length < 100000 := by
        rw [List.length_append, List.length_map, List.length_map, List.length_take]
        omega
      refine ⟨hw1 _ _, lc_turn (f := true) mS p6 hln et_yes (fun _ H8 e8 => he _ y z H8 (eH.trans e8) (mR.m _ _ _ _ e8 ry6)) fun H8 i8 => ?_⟩
      have ex : (x.take (k + 1)).map g = (x.take k).map g ++ [g y] := by
        rw [List.take_add_one, hy, List.map_append]
        rfl
      show Iv B D S ((xs.take i).flatten.map g ++ (x.take (k + 1)).map g) H8
      rw [ex, ← List.append_assoc]
      exact i8
    · have ek : k = ws.length := by omega
      refine .inl ⟨⟨ws, .inl (.inl hb6), by omega⟩, ?_⟩
      show Iv B D S ((xs.take (i + 1)).flatten.map g) H6
      rw [efl, List.map_append]
      rw [ek, hxl, List.take_length] at p6
      exact p6
  · have ei : i = us.length := by omega
    refine .inl ⟨⟨us, .inl (.inl ha'), by omega⟩, ?_⟩
    rw [ei, hp.length, List.take_length] at p
    exact q (.ref D) H' (eB.trans p.2.1) p.done
/-- dict of such pairs: some dict -/
theorem pk_pairs {H : Hp} : ∀ {vs : List V} {ns : List Nat}, Paired (PkR H) vs ns → ∃ (ps : List Addr) (kvs : List (Key × V)), vs = ps.map V.ref ∧ Paired (fun p kv => SqT K H p [kV kv.1, kv.2]) ps kvs
  | _, _, .nil => ⟨[], [], rfl, .nil⟩
  | _, _, .cons r tl => by
    obtain ⟨ps, kvs, rfl, hp⟩ := pk_pairs tl
    obtain ⟨p, u, rfl, h⟩ := r
    exact ⟨p :: ps, (kN _, u) :: kvs, rfl, .cons (.inl (.inl h)) hp⟩
theorem er_dictAny {ns : List Nat} (h : Er (LstR PkR) ta σ H ns) : Er AnyR (tCB (rDictP K) (tCons ta tNil)) σ H () := fun H1 e Q q => h H1 e _ fun v H2 e2 r => by
  obtain ⟨a, vs, rfl, ha, hp⟩ := r
  obtain ⟨ps, kvs, rfl, hq⟩ := pk_pairs (K := K) hp
  exact ⟨a, ps, kvs, rfl, .inl (.inl ha), hq, fun p np => q _ _ (e2.trans (Ex.new np)) trivial⟩
/-- dict of pairs of numbers -/
def kvN (xs : List (Nat × Nat)) : List (Key × V) := xs.map fun x => (kN x.1, V.int (x.2 : Int))
def DcR : Rl (List (Nat × Nat)) := fun H v xs => ∃ d, v = .ref d ∧ H d = some (.dK (mergeK [] (kvN xs)))
theorem nn_pairs {H : Hp} : ∀ {vs : List V} {xs : List (Nat × Nat)}, Paired (PrR NatR NatR H) vs xs → ∃ (ps : List Addr), vs = ps.map V.ref ∧ Paired (fun p kv => SqT K H p [kV kv.1, kv.2]) ps (kvN xs)
  | _, _, .nil => ⟨[], rfl, .nil⟩
  | _, _, .cons r tl => by
    obtain ⟨ps, rfl, hp⟩ := nn_pairs tl
    obtain ⟨p, u, z, rfl, h, r1, r2⟩ := r
    cases r1
    cases r2
    exact ⟨p :: ps, rfl, .cons (.inl (.inl h)) hp⟩
theorem er_dictN {xs : List (Nat × Nat)} (h : Er (LstR (PrR NatR NatR)) ta σ H xs) : Er DcR (tCB (rDictP K) (tCons ta tNil)) σ H xs := fun H1 e Q q => h H1 e _ fun v H2 e2 r => by
  obtain ⟨a, vs, rfl, ha, hp⟩ := r
  obtain ⟨ps, rfl, hq⟩ := nn_pairs (K := K) hp
  exact ⟨a, ps, kvN xs, rfl, .inl (.inl ha), hq, fun p np => q _ _ (e2.trans (Ex.new np)) ⟨p, rfl, upd_same⟩⟩
/-- sorted(set(list)) of no number -/
theorem er_sortSet0 (h : Er LN ta σ H []) : Er LN (tCB (rSortedSet w) (tCons (tCB (rSetI K w) (tCons ta tNil)) tNil)) σ H [] := fun H1 e Q q => h H1 e _ fun v H2 e2 r => by
  obtain ⟨a, rfl, ha⟩ := ln_v r
  refine ⟨a, [], rfl, .inl (.inl (.inl ha)), Nat.zero_le _, fun p ks np h1 h2 => ?_⟩
  have e0 : ks = [] := List.eq_nil_iff_forall_not_mem.mpr fun k hk => by
    have := (h2 k).mp hk
    simp at this
  subst e0
  refine ⟨p, _, 0, rfl, upd_same, by decide, fun ns r _ _ hl nr => ?_⟩
  have e1 : ns = [] := List.eq_nil_of_length_eq_zero hl
  subst e1
  exact q (.ref r) _ ((e2.trans (Ex.new np)).trans (Ex.new nr)) ⟨r, [], rfl, upd_same, .nil⟩
/-- a number in a list of numbers -/
theorem ev_inLN {m : Nat} {ns : List Nat} (h : Ev ta σ H (.int (m : Int))) (k : Er LN tb σ H ns) : Ev (tOp (rIn K false) ta tb) σ H (.bl (decide (m ∈ ns))) := fun H1 e Q q => h H1 e _ fun H2 e2 => k H2 (e.trans e2) _ fun v H3 e3 r => by
  obtain ⟨a, rfl, ha⟩ := ln_v r
  refine ⟨a, vN ns, rfl, .inl (.inl (.inl ha)), rfl, ?_, ?_⟩
  · refine List.all_eq_true.mpr fun x hx => ?_
    obtain ⟨n, _, rfl⟩ := List.mem_map.mp hx
    rfl
  · have ei : inV (.int (m : Int)) (vN ns) = decide (m ∈ ns) := by
      rw [Bool.eq_iff_iff, decide_eq_true_eq]
      unfold inV
      rw [List.any_eq_true]
      constructor
      · rintro ⟨x, hx, ex⟩
        obtain ⟨n, hn, rfl⟩ := List.mem_map.mp hx
        have e2 : ((n : Int) == (m : Int)) = true := ex
        rw [beq_iff_eq] at e2
        have e3 : n = m := Int.ofNat_inj.mp e2
        exact e3 ▸ hn
      · intro hm
        refine ⟨.int (m : Int), List.mem_map.mpr ⟨m, hm, rfl⟩, ?_⟩
        show ((m : Int) == (m : Int)) = true
        exact beq_self_eq_true _
    show Q (.bl (inV (.int (m : Int)) (vN ns))) H3
    rw [ei]
    exact q H3 (e2.trans e3)
end
end Rg
/-! What is told: nothing. -/
namespace Rg
open PySem L2 Evl RgR RgM
section
variable {P : Program} {w : World} {K : PySem.W.Frag} {mg : Str → Option Value} {base : Heap}
/-- of a table and nothing told -/
def spTold (r : V) : Sp := fun vs H Q _ => ∃ (v : V) (b : Addr) (n : Nat) (p q s t : Nat → Nat), vs = [v, .ref b] ∧ TTN H v (tabD n p q) ∧ Tab2 n p q s t ∧ 1 ≤ n ∧ n ≤ 20 ∧ H b = some (.tup []) ∧ ∀ H', Ex H H' → Q r H'
theorem spTold_len {r : V} : ∀ vs H Q E, spTold r vs H Q E → vs.length = 2 := fun vs H Q E h => by
  obtain ⟨v, b, n, p, q, s, t, rfl, _⟩ := h
  rfl
theorem ok_fits_told {f : Addr} {fd : FuncData} (F : Fun K "fits_told" "fits_told" s_fits_told f fd) (T : Bl mg) (C1 : Cal P w K mg base 1 "is_tuple_of" ["value", "low", "high"] spTupleOf) (C2 : Cal P w K mg base 1 "is_whole" ["value", "low", "high"] spWhole) :
    FnOk P w K mg base CX0 2 f fd ["table", "value"] (spTold (.bl true)) := by
  refine F.ok sc_fits_told spTold_len (fun cdv A outer s H vs Q E hr h => ?_)
  obtain ⟨v, b, n, p, q, sf, tf, rfl, hv, tab, h1, h20, hb, k⟩ := h
  have nd := sc_fits_told.nd
  refine ⟨_, pss_cons (ps_if (PW.pt (pw_or (pt_not (pt_val (pe_cal C1 hr (by rfl) (pa_cons (pv 1) (pa_cons pe_int (pa_cons (pe_callB (cLen K) (by rfl) T.b_len PySem.boot_len (pa_cons (pv 0) pa_nil)) pa_nil)))))) (pw_or1 (pt_not (pt_val (pe_callB (cAll K) (by rfl) T.b_all (by decide +kernel)
        (pa_cons (pe_lc (own := [("pair", 3)]) (g := gName 3) (tt := tYes) rfl nd (piT K (pv 1)) (blkOk_by (N := N_fits_told) (sc := defScope s_fits_told) (by decide +kernel)) (fun _ _ _ _ _ => pg_name (i := 3) nd rfl (Or.inl rfl)) (fun _ _ _ _ _ => pts_nil)
          (fun _ _ _ _ _ => pe_cal C1 hr (by rfl) (pa_cons (pv 3) (pa_cons pe_int (pa_cons pe_int pa_nil))))) pa_nil))))))) (pss_one (ps_ret pe_bl)) pss_nil)
    (pss_cons (ps_if (pt_not (pt_val (pe_callB (cAll K) (by rfl) T.b_all (by decide +kernel)
        (pa_cons (pe_lc (own := [("number", 4), ("way", 5)]) (g := gTup K 2 (gCons (gName 4) (gCons (gName 5) gNil))) (tt := tYes) rfl nd (piT K (pv 1)) (blkOk_by (N := N_fits_told) (sc := defScope s_fits_told) (by decide +kernel))
          (fun _ _ _ _ _ => gT2 K rfl (pgs_cons (pg_name (i := 4) nd rfl (Or.inl rfl)) (pgs_cons (pg_name (i := 5) nd rfl (Or.inl rfl)) pgs_nil))) (fun _ _ _ _ _ => pts_nil)
          (fun _ _ _ _ _ => pe_and (pe_cal C2 hr (by rfl) (pa_cons (pv 4) (pa_cons pe_int (pa_cons (pe_op op_sub (pe_callB (cLen K) (by rfl) T.b_len PySem.boot_len (pa_cons (pv 0) pa_nil)) pe_int) pa_nil))))
            (pe_one (pe_cal C2 hr (by rfl) (pa_cons (pv 5) (pa_cons pe_int (pa_cons (pe_op op_sub (pe_callB (cLen K) (by rfl) T.b_len PySem.boot_len (pa_cons (pe_ix (iT K) (pv 0) pe_int (fun _ _ => rfl)) pa_nil)) pe_int) pa_nil))))))) pa_nil)))) (pss_one (ps_ret pe_bl)) pss_nil)
    (pss_cons (ps_setLc (i := 2) (own := [("number", 4), ("way", 5)]) (g := gTup K 2 (gCons (gName 4) (gCons (gName 5) gNil))) (tt := tYes) rfl nd rfl rfl (by rfl) (piT K (pv 1)) (blkOk_by (N := N_fits_told) (sc := defScope s_fits_told) (by decide +kernel))
          (fun _ _ _ _ _ => gT2 K rfl (pgs_cons (pg_name (i := 4) nd rfl (Or.inl rfl)) (pgs_cons (pg_name (i := 5) nd rfl (Or.inl rfl)) pgs_nil))) (fun _ _ _ _ _ => pts_nil) (fun _ _ _ _ _ => pv 4))
    (pss_one (ps_ret (pe_cmpR (oEqD K hr.units) (pv 2) (pe_callB (cSortS w) (by rfl) T.b_sorted (by decide +kernel) (pa_cons (pe_callTy (cSet K w) (by rfl) T.b_set PyProof.Rows.boot_set (pa_cons (pv 2) pa_nil)) pa_nil)) (nomark _)))))), ?_⟩
  have hb0 : ∀ {H1 : Hp}, Ex H H1 → TN H1 (.ref b) [] := fun e => ⟨b, [], rfl, e b _ hb, .nil⟩
  have er0 : ∀ {σ : L2.St} {H1 : Hp}, σ[1]? = some (some (V.ref b)) → Ex H H1 → Er TN (tVar 1) σ H1 [] := fun h e => er_var mTN.m h (hb0 e)
  have hv0 : ∀ {σ : L2.St} {H1 : Hp}, σ[0]? = some (some v) → Ex H H1 → Er TTN (tVar 0) σ H1 (tabD n p q) := fun h e => er_var mTTN.m h (mTTN.m _ _ _ _ e hv)
  refine q_when (b := false) (σ := [some v, some (.ref b), none, none, none, none]) (et_or (et_not (et_B (ev_tupOf (ev_v rfl) (hb0 (Ex.refl H)) ev_c (ev_lenT (hv0 rfl (Ex.refl H))) (by show (0 : Int) ≤ ((0 : Nat) : Int); decide) (by show ((0 : Nat) : Int) ≤ _; omega)))) fun _ => et_not (et_B (ev_is (ev_all (er_lcTn (K := K) (S := BlR) (er0 rfl (Ex.refl H)))) rfl))) (fun z => absurd z Bool.noConfusion) (fun _ H1 e1 => ?_)
  refine q_when (b := false) (σ := [some v, some (.ref b), none, none, none, none]) (et_not (et_B (ev_is (ev_all (er_lcTn (K := K) (S := BlR) (er0 rfl e1))) rfl))) (fun z => absurd z Bool.noConfusion) (fun _ H2 e2 => ?_)
  have e12 := e1.trans e2
  refine q_asgE (R := LN) (er_lcTn (K := K) (S := NatR) (er0 (σ := [some v, some (.ref b), none, none, none, none]) rfl e12)) fun u H3 e3 r3 => ?_
  exact ev_is (w := .bl true) (ev_eqLN (K := K) (l := []) (m := []) (er_var (σ := [some v, some (.ref b), some u, none, none, none]) mLN rfl r3) (er_sortSet0 (er_var mLN rfl r3))) rfl H3 (Ex.refl H3) _ fun H4 e4 => k H4 ((e12.trans e3).trans e4)
theorem ev_told {σ : L2.St} {H : Hp} {ta tb : TE} {v r : V} {b : Addr} {n : Nat} {p q s t : Nat → Nat} (h : Ev ta σ H v) (hb : Ev tb σ H (.ref b)) (hv : TTN H v (tabD n p q)) (T : Tab2 n p q s t) (h1 : 1 ≤ n) (h20 : n ≤ 20) (e0 : H b = some (.tup [])) : Ev (tCall (spTold r) [] E0 (tCons ta (tCons tb tNil))) σ H r :=
  ev_call (a2 h hb) fun H1 e Q k => ⟨v, b, n, p, q, s, t, rfl, mTTN.m _ _ _ _ e hv, T, h1, h20, e b _ e0, fun H2 e2 => k H2 e2⟩
theorem ok_need_told {f : Addr} {fd : FuncData} (F : Fun K "need_told" "need_told" s_need_told f fd) (C1 : Cal P w K mg base 2 "fits_told" ["table", "value"] (spTold (.bl true))) : FnOk P w K mg base CX0 3 f fd ["table", "value"] (spTold .non) := by
  refine F.ok sc_need_told spTold_len (fun cdv A outer s H vs Q E hr h => ?_)
  obtain ⟨v, b, n, p, q, sf, tf, rfl, hv, tab, h1, h20, hb, k⟩ := h
  refine ⟨_, pss_one (ps_if (pt_not (pt_val (pe_cal C1 hr (by rfl) (pa_cons (pv 0) (pa_cons (pv 1) pa_nil))))) pss_never pss_nil), ?_⟩
  refine s_when (b := false) (σ := [some v, some (.ref b)]) (et_not (et_B (ev_told (ev_v rfl) (ev_v rfl) hv tab h1 h20 hb))) (fun z => absurd z Bool.noConfusion) (fun _ H1 e1 => k H1 e1)
/-! ### ties and nothing told -/
def spTies0 (R : List (List Nat) → Hp → V → Prop) : Sp := fun vs H Q _ => ∃ (v : V) (b : Addr) (L : List (List Nat)), vs = [v, .ref b] ∧ LTN H v L ∧ L.flatten.length ≤ 4000 ∧ L.length ≤ 4000 ∧ (∀ l ∈ L, l.length ≤ 4000) ∧ H b = some (.tup []) ∧ ∀ v' H', Ex H H' → R L H' v' → Q v' H'
theorem spTies0_len {R : List (List Nat) → Hp → V → Prop} : ∀ vs H Q E, spTies0 R vs H Q E → vs.length = 2 := fun vs H Q E h => by
  obtain ⟨v, b, L, rfl, _⟩ := h
  rfl
theorem ok_free_in {f : Addr} {fd : FuncData} (F : Fun K "free_in" "free_in" s_free_in f fd) (T : Bl mg) : FnOk P w K mg base CX0 1 f fd ["ties", "told"] (spTies0 fun L H v => LTN H v L) := by
  refine F.ok sc_free_in spTies0_len (fun cdv A outer s H vs Q E hr h => ?_)
  obtain ⟨v, b, L, rfl, hv, hz, hz2, hz3, hb, k⟩ := h
  have nd := sc_free_in.nd
  refine ⟨_, pss_cons (ps_set (i := 2) nd rfl (Or.inr rfl) (pe_lc (own := [("number", 3), ("way", 4)]) (g := gTup K 2 (gCons (gName 3) (gCons (gName 4) gNil))) (tt := tYes) rfl nd (piT K (pv 1)) (blkOk_by (N := N_free_in) (sc := defScope s_free_in) (by decide +kernel))
          (fun _ _ _ _ _ => gT2 K rfl (pgs_cons (pg_name (i := 3) nd rfl (Or.inl rfl)) (pgs_cons (pg_name (i := 4) nd rfl (Or.inl rfl)) pgs_nil))) (fun _ _ _ _ _ => pts_nil) (fun _ _ _ _ _ => pv 3)))
    (pss_one (ps_ret (pe_lc (own := [("tie", 5)]) (g := gName 5) rfl nd (piL K (pv 0)) (blkOk_by (N := N_free_in) (sc := defScope s_free_in) (by decide +kernel)) (fun _ _ _ _ _ => pg_name (i := 5) nd rfl (Or.inl rfl))
      (fun _ _ _ _ _ => pts_one (pt_not (pt_val (pe_callB (cAny K) (by rfl) T.b_any (by decide +kernel) (pa_cons
        (pe_lc (own := [("number", 3)]) (g := gName 3) (tt := tYes) rfl nd (piT K (pv 5)) (blk_in (N := N_free_in) (sc0 := defScope s_free_in) rfl (by decide +kernel)) (fun _ _ _ _ _ => pg_name (i := 3) nd rfl (Or.inl rfl)) (fun _ _ _ _ _ => pts_nil)
          (fun _ _ _ _ _ => pe_cmpR (oIn K) (pv 3) (pv 2) (by rfl))) pa_nil)))))
      (fun _ _ _ _ _ => pv 5)))), ?_⟩
  have er0 : ∀ {σ : L2.St} {H1 : Hp}, σ[1]? = some (some (V.ref b)) → Ex H H1 → Er TN (tVar 1) σ H1 [] := fun h e => er_var mTN.m h ⟨b, [], rfl, e b _ hb, .nil⟩
  refine q_asgE (R := LN) (er_lcTn (K := K) (S := NatR) (er0 (σ := [some v, some (.ref b), none, none, none, none]) rfl (Ex.refl H))) fun u H3 e3 r3 => ?_
  refine Er.is (R := LTN) (y := L) (er_lcL (K := K) (σ := [some v, some (.ref b), some u, none, none, none]) (H := H3) (R := TN) (S := TN) (xs := L) (fun _ => true) (fun l => l) mTN.m mTN (er_var mLTN rfl (mLTN _ _ _ _ e3 hv)) (by omega) (fun _ => rfl) (fun l z H1 e hl r => et_is (et_not (et_B (ev_any (er_lcT1 (K := K) (R := NatR) (S := BlR) (fun _ => false) monT_nat.m monT_bl (er_var mTN.m rfl r) (by have := hz3 l hl; omega) (fun _ => rfl) (fun m y H2 e2 hm r2 => by
    cases r2
    exact er_bl (ev_is (ev_inLN (ns := []) (ev_v rfl) (er_var mLN rfl (mLN _ _ _ _ (e.trans e2) r3))) (by simp))))))) (by
      rw [List.any_map]
      simp)) (fun l z H1 e hl r _ => er_var mTN.m rfl r)) (by rw [all_fm, List.map_id']) H3 (Ex.refl H3) _ fun v' H4 e4 r4 => k v' H4 (e3.trans e4) r4
theorem ok_apart_in {f : Addr} {fd : FuncData} (F : Fun K "apart_in" "apart_in" s_apart_in f fd) (T : Bl mg) : FnOk P w K mg base CX0 1 f fd ["ties", "told"] (spTies0 fun _ _ v => v = .non) := by
  refine F.ok sc_apart_in spTies0_len (fun cdv A outer s H vs Q E hr h => ?_)
  obtain ⟨v, b, L, rfl, hv, hz, hz2, hz3, hb, k⟩ := h
  have nd := sc_apart_in.nd
  have hu := hu_of hr
  refine ⟨_, pss_cons (ps_set (i := 2) nd rfl (Or.inl rfl) (pe_callTy (cDict K) (by rfl) T.b_dict (by decide +kernel) (pa_cons (pe_lc2 (own := [("tie", 8), ("number", 9)]) (vs1 := [9]) (g := gName 8) (tt := tYes) (g1 := gName 9) (tt1 := tYes) rfl nd (piL K (pv 0)) (blkOk_by (N := N_apart_in) (sc := defScope s_apart_in) (by decide +kernel)) (by decide)
          (fun _ _ _ _ _ => pg_name (i := 8) nd rfl (Or.inl rfl)) (fun _ _ _ _ _ => pts_nil) (fun _ _ _ _ _ => piT K (pv 8)) (fun _ _ _ _ _ => pg_name (i := 9) nd rfl (Or.inl rfl)) (fun _ _ _ _ _ => pts_nil)
          (fun _ _ _ _ _ => pe_tup (pa_cons (pv 9) (pa_cons (pv 8) pa_nil)))) pa_nil)))
    (pss_cons (ps_for PassesOwn.never rfl (piE K (by rfl) T.b_enumerate (pa_cons (pv 1) pa_nil)) (gT2 K rfl (pgs_cons (pg_name (i := 3) nd rfl (Or.inl rfl)) (pgs_cons (gT2 K rfl (pgs_cons (pg_name (i := 4) nd rfl (Or.inl rfl)) (pgs_cons (pg_name (i := 5) nd rfl (Or.inl rfl)) pgs_nil))) pgs_nil)))
      (pss_one (ps_for PassesOwn.never rfl (piT K (pe_slice sl_tupA (pv 1) (po_some (pe_op op_add (pv 3) pe_int)) po_none)) (gT2 K rfl (pgs_cons (pg_name (i := 6) nd rfl (Or.inl rfl)) (pgs_cons (pg_name (i := 7) nd rfl (Or.inl rfl)) pgs_nil)))
        (pss_one (ps_if (PW.pt (pw_and (pt_cmpR (oEqD K hr.units) (pe_dget hu (pv 2) (pv 4) (fun _ _ => rfl)) (pe_dget hu (pv 2) (pv 6) (fun _ _ => rfl)) (nomark _)) (pw_and1 (pt_cmpR op_ne (pv 5) (pv 7) (nomark _))))) (pss_one (ps_ret (pe_tup (pa_cons (pv 4) (pa_cons (pv 6) pa_nil))))) pss_nil)))))
    (pss_one (ps_ret pe_non))), ?_⟩
  have er : Er (LstR PkR) (tLc2 (iList K (tVar 0)) (gName 8) tYes (iTup K (tVar 8)) (gName 9) tYes (tTup (tCons (tVar 9) (tCons (tVar 8) tNil))) [8, 9] [9]) [some v, some (.ref b), none, none, none, none, none, none, none, none] H (L.flatten.map fun n => n) := er_lc2 (K := K) (R := NatR) (S := PkR) (xs := L) (fun n => n) monT_nat monT_pk (er_var mLTN rfl hv) (by omega) (fun _ => rfl) (fun _ => rfl) (fun _ _ => rfl) (fun u y z H1 e r => fun H2 e2 Q q => by
      cases r
      refine ⟨_, rfl, _, rfl, by show 2 ≤ sizeLine; decide, fun T nT => q _ _ (Ex.new nT) ⟨T, u, rfl, upd_same⟩⟩)
  refine q_asgE (R := AnyR) (er_dictAny er) fun u H3 e3 _ => ?_
  refine q_forE (σ := [some v, some (.ref b), some u, none, none, none, none, none, none, none]) (ev_v rfl) (e3 b _ hb) (fun i σ' H' => Ex H3 H') (fun H4 e4 => e4) (fun i σ' H' e => e) (fun i y T' σ' H' hi => ?_) (fun σ' H' e => k _ H' (e3.trans e) rfl)
  simp at hi
end
end Rg
/-! ties_in, ties_of, count_two. -/
namespace Rg
open PySem L2 Evl RgR RgM
/-! ### rules -/
def srt (ns : List Nat) : List Nat := ns.mergeSort fun a b => decide (a ≤ b)
theorem srt_perm (ns : List Nat) : (srt ns).Perm ns := List.mergeSort_perm _ _
theorem srt_asc (ns : List Nat) : (srt ns).Pairwise (· ≤ ·) := by
  have h := List.pairwise_mergeSort (le := fun a b : Nat => decide (a ≤ b)) (fun a b c h1 h2 => by
    rw [decide_eq_true_eq] at h1 h2 ⊢
    omega) (fun a b => by
    rw [Bool.or_eq_true, decide_eq_true_eq, decide_eq_true_eq]
    omega) ns
  exact h.imp fun {a b} z => of_decide_eq_true z
theorem srt_of {l ns : List Nat} (hp : l.Perm ns) (hs : l.Pairwise (· ≤ ·)) : l = srt ns :=
  List.Perm.eq_of_pairwise (le := fun a b : Nat => a ≤ b) (fun a b _ _ h1 h2 => Nat.le_antisymm h1 h2) hs (srt_asc ns) (hp.trans (srt_perm ns).symm)
section
variable {K : PySem.W.Frag} {w : World} {σ : L2.St} {H H' : Hp} {ta tb tc te tl : TE} {t tt : TT} {α β : Type} {R : Rl α} {S : Rl β} {D : Ends} {tz tu : TS}
theorem er_sortT {ns : List Nat} (h : Er TN ta σ H ns) : Er LN (tCB (rSortedIT K) (tCons ta tNil)) σ H (srt ns) := fun H1 e Q q => h H1 e _ fun v H2 e2 r => by
  obtain ⟨a, rfl, ha⟩ := tn_v r
  rw [← iN_v] at ha
  refine ⟨a, iN ns, rfl, .inl (.inl ha), fun ns' p h1 h2 np => ?_⟩
  obtain ⟨ms, rfl, hp⟩ := iN_perm h1
  have e3 := srt_of hp (iN_le h2)
  subst e3
  rw [iN_v]
  exact q (.ref p) _ (e2.trans (Ex.new np)) ⟨p, _, rfl, upd_same, nat_pr _⟩
theorem er_sortL {ns : List Nat} (h : Er LN ta σ H ns) : Er LN (tCB (rSortedI K) (tCons ta tNil)) σ H (srt ns) := fun H1 e Q q => h H1 e _ fun v H2 e2 r => by
  obtain ⟨a, rfl, ha⟩ := ln_v r
  rw [← iN_v] at ha
  refine ⟨a, iN ns, rfl, .inl (.inl ha), fun ns' p h1 h2 np => ?_⟩
  obtain ⟨ms, rfl, hp⟩ := iN_perm h1
  have e3 := srt_of hp (iN_le h2)
  subst e3
  rw [iN_v]
  exact q (.ref p) _ (e2.trans (Ex.new np)) ⟨p, _, rfl, upd_same, nat_pr _⟩
theorem ev_neTN {l m : List Nat} (h : Er TN ta σ H l) (k : Er TN tb σ H m) : Ev (tOp (rNeD K) ta tb) σ H (.bl (!decide (l = m))) := fun H1 e Q q => h H1 e _ fun v H2 e2 r => k H2 (e.trans e2) _ fun w H3 e3 s => by
  refine ⟨_, _, dp_tn (mTN.m _ _ _ _ e3 r), dp_tn s, sh_tn l, sh_tn m, ?_⟩
  rw [PyData.eqv, eqv_n]
  exact q H3 (e2.trans e3)
end
section
variable {σ : L2.St} {H : Hp} {ta tb tc : TE} {α β : Type} {R : Rl α} {S : Rl β} {D : Ends} {tz : TS}
theorem q_par {i j : Nat} {x : α} {v2 : V} (mR : Mon R) (h : Er R ta σ H x) (h2 : Ev tb σ H v2) (k : ∀ v H1, Ex H H1 → R H1 v x → tz D ((σ.set i (some v)).set j (some v2)) H1) : tSeq (tPar i j (tCons ta (tCons tb tNil))) tz D σ H :=
  h H (Ex.refl H) _ fun v H1 e1 r => h2 H1 e1 _ fun H2 e2 => ⟨v, v2, rfl, k v H2 (e1.trans e2) (mR _ _ _ _ e2 r)⟩
theorem s_par3 {i j l : Nat} {y : β} {v3 : V} {Pa : V → Hp → Prop} (h : ∀ Q : VK, (∀ v H1, Ex H H1 → Pa v H1 → Q v H1) → ta σ H Q) (mS : Mon S) (h2 : Er S tb σ H y) (h3 : Ev tc σ H v3)
    (k : ∀ v1 v2 H1 H2, Ex H H1 → Pa v1 H1 → Ex H1 H2 → S H2 v2 y → D.nx (((σ.set i (some v1)).set j (some v2)).set l (some v3)) H2) : tPar3 i j l (tCons ta (tCons tb (tCons tc tNil))) D σ H :=
  h _ fun v1 H1 e1 p1 => h2 H1 e1 _ fun v2 H2 e2 r2 => h3 H2 (e1.trans e2) _ fun H3 e3 => ⟨v1, v2, v3, rfl, k v1 v2 H1 H3 e1 p1 (e2.trans e3) (mS _ _ _ _ e3 r2)⟩
end
theorem back_idx (n : Nat) (p q : Nat → Nat) : (tabD n p q).mapIdx (fun i l => (l.getD 1 0, i)) = (List.range n).map fun i => (q i, i) := by
  apply List.ext_getElem?
  intro i
  rw [List.getElem?_mapIdx, List.getElem?_map]
  by_cases hi : i < n
  · rw [get_tab hi, List.getElem?_range hi]
    rfl
  · have e1 : (tabD n p q)[i]? = none := List.getElem?_eq_none (by rw [len_tab]; omega)
    have e2 : (List.range n)[i]? = none := List.getElem?_eq_none (by rw [List.length_range]; omega)
    rw [e1, e2]
    rfl
theorem back_get {n : Nat} {q : Nat → Nat} (qi : ∀ x y, x < n → y < n → q x = q y → x = y) : ∀ m, m ≤ n → ∀ j, j < m → valV (mergeK [] (kvN ((List.range m).map fun i => (q i, i)))) (kN (q j)) = some (.int (j : Int))
  | 0, _, j, hj => absurd hj (Nat.not_lt_zero j)
  | m + 1, hm, j, hj => by
    have e : mergeK [] (kvN ((List.range (m + 1)).map fun i => (q i, i))) = putK (mergeK [] (kvN ((List.range m).map fun i => (q i, i)))) (kN (q m)) (.int (m : Int)) := by
      rw [List.range_succ, List.map_append]
      unfold kvN mergeK
      rw [List.map_append, List.foldl_append]
      rfl
    rw [e, valV_put]
    by_cases z : j = m
    · subst z
      rw [if_pos rfl]
    · rw [if_neg fun k => z (qi j m (by omega) (by omega) (kN_inj k))]
      exact back_get qi m (by omega) j (by omega)
theorem ties_small {n : Nat} {s : Nat → Nat} {L : List (List Nat)} (I : IsTies n s L) : L.flatten.length ≤ n ∧ L.length ≤ n ∧ ∀ l ∈ L, l.length ≤ n := by
  have hnd : L.flatten.Nodup := nodup_flatten (fun l hl => asc_nodup (I.asc l hl)) (List.Pairwise.imp_of_mem (fun {a b} ha hb hab x hxa hxb => by
    have e := I.disj a ha b hb x hxa hxb
    rw [e] at hab
    omega) I.ord)
  have h1 := len_le_of_sub (m := List.range n) hnd (fun x hx => by
    obtain ⟨l, hl, hxl⟩ := List.mem_flatten.mp hx
    exact List.mem_range.mpr (I.sub l hl x hxl))
  rw [List.length_range] at h1
  have h2 : ∀ M : List (List Nat), (∀ l ∈ M, l ≠ []) → M.length ≤ M.flatten.length := fun M => by
    induction M with
    | nil => intro _; exact Nat.le_refl 0
    | cons l M ih =>
      intro h
      have a := ih fun l hl => h l (List.mem_cons_of_mem _ hl)
      have b := List.length_pos_iff.mpr (h l List.mem_cons_self)
      rw [List.flatten_cons, List.length_append, List.length_cons]
      omega
  have h3 := h2 L I.ne
  refine ⟨h1, by omega, fun l hl => ?_⟩
  have h4 := len_le_of_sub (m := List.range n) (asc_nodup (I.asc l hl)) fun x hx => List.mem_range.mpr (I.sub l hl x hx)
  rw [List.length_range] at h4
  exact h4
section
variable {P : Program} {w : World} {K : PySem.W.Frag} {mg : Str → Option Value} {base : Heap}
/-- of a table: its ties -/
def spTies : Sp := fun vs H Q _ => ∃ (v : V) (n : Nat) (p q s t : Nat → Nat), vs = [v] ∧ TTN H v (tabD n p q) ∧ Tab2 n p q s t ∧ 1 ≤ n ∧ n ≤ 20 ∧ ∀ v' H' L, Ex H H' → IsTies n s L → LTN H' v' L → Q v' H'
theorem spTies_len : ∀ vs H Q E, spTies vs H Q E → vs.length = 1 := fun vs H Q E h => by
  obtain ⟨v, n, p, q, s, t, rfl, _⟩ := h
  rfl
theorem ok_ties_in {f : Addr} {fd : FuncData} (F : Fun K "ties_in" "ties_in" s_ties_in f fd) (T : Bl mg) : FnOk P w K mg base CX0 1 f fd ["two"] spTies := by
  refine F.ok sc_ties_in spTies_len (fun cdv A outer st H vs Q E hr h => ?_)
  obtain ⟨v, n, p, q, s, t, rfl, hv, tab, h1, h20, k⟩ := h
  have nd := sc_ties_in.nd
  have hu := hu_of hr
  refine ⟨_, pss_cons (ps_set (i := 1) nd rfl (Or.inl rfl) (pe_callTy (cDict K) (by rfl) T.b_dict (by decide +kernel) (pa_cons (pe_lc (own := [("number", 7), ("item", 8)]) (g := gTup K 2 (gCons (gName 7) (gCons (gName 8) gNil))) (tt := tYes) rfl nd (piE K (by rfl) T.b_enumerate (pa_cons (pv 0) pa_nil))
      (blkOk_by (N := N_ties_in) (sc := defScope s_ties_in) (by decide +kernel)) (fun _ _ _ _ _ => gT2 K rfl (pgs_cons (pg_name (i := 7) nd rfl (Or.inl rfl)) (pgs_cons (pg_name (i := 8) nd rfl (Or.inl rfl)) pgs_nil))) (fun _ _ _ _ _ => pts_nil)
      (fun _ _ _ _ _ => pe_tup (pa_cons (pe_ix (iT K) (pv 8) pe_int (fun _ _ => rfl)) (pa_cons (pv 7) pa_nil)))) pa_nil)))
    (pss_cons (ps_par (i := 2) (j := 3) rfl nd rfl rfl (by decide) rfl rfl (pa_cons (pe_lst pa_nil) (pa_cons pe_dnewK pa_nil)) (by rfl))
    (pss_cons (ps_for PassesOwn.never rfl (pi_range1 (by rfl) T.b_range (pa_cons (pe_callB (cLen K) (by rfl) T.b_len PySem.boot_len (pa_cons (pv 0) pa_nil)) pa_nil)) (pg_name (i := 4) nd rfl (Or.inl rfl))
      (pss_cons (ps_par (i := 5) (j := 6) rfl nd rfl rfl (by decide) rfl rfl (pa_cons (pe_tup pa_nil) (pa_cons (pv 4) pa_nil)) (by rfl))
      (pss_cons (ps_while PassesOwn.never (pt_cmp (pc_dnotin hu (pv 6) (pv 3)))
        (pss_one (ps_par3 (i := 3) (j := 5) (l := 6) rfl nd rfl rfl rfl (by decide) (by decide) (by decide) rfl rfl rfl
          (pa_cons (pe_up (pv 3) (pv 6) (pv 4)) (pa_cons (pe_op (oCatT K) (pv 5) (pe_tup (pa_cons (pv 6) pa_nil))) (pa_cons (pe_dget hu (pv 1) (pe_ix (iT K) (pe_ix (iT K) (pv 0) (pv 6) (fun _ _ => rfl)) pe_int (fun _ _ => rfl)) (fun _ _ => rfl)) pa_nil))) (by rfl))))
      (pss_one (ps_set (i := 2) nd rfl (Or.inl rfl) (pe_op op_cat (pv 2) (pe_ifExp (pt_cmpR (oNeD K hr.units) (pv 5) (pe_tup pa_nil) (nomark _))
        (pe_lst (pa_cons (pe_callTy (cTup K) (by rfl) T.b_tuple (by decide +kernel) (pa_cons (pe_callB (cSortT K) (by rfl) T.b_sorted (by decide +kernel) (pa_cons (pv 5) pa_nil)) pa_nil)) pa_nil)) (pe_lst pa_nil))))))))
    (pss_one (ps_ret (pv 2))))), ?_⟩
  have hv0 : ∀ {σ : L2.St} {H1 : Hp}, σ[0]? = some (some v) → Ex H H1 → Er TTN (tVar 0) σ H1 (tabD n p q) := fun h e => er_var mTTN.m h (mTTN.m _ _ _ _ e hv)
  -- back = dict(..)
  refine q_asgE (σ := [some v, none, none, none, none, none, none, none, none]) (R := DcR) (er_dictN (K := K) (Er.is (er_lcE (K := K) (R := TN) (S := PrR NatR NatR) (fun i l => (l.getD 1 0, i)) mTN.m (monT_pr monT_nat monT_nat) (hv0 rfl (Ex.refl H)) (by rw [len_tab]; omega) (fun _ _ => rfl) (fun i l z H1 e hl r => ?_)) (back_idx n p q))) fun bv H1 e1 rb => ?_
  · have hi : i < n := by
      have := (List.getElem?_eq_some_iff.mp hl).1
      rw [len_tab] at this
      exact this
    rw [get_tab hi] at hl
    cases hl
    exact er_pair monT_nat.m monT_nat.m (er_ixT (i := 1) monT_nat.m (er_var mTN.m rfl r) ev_c rfl) (er_nat (ev_v rfl))
  obtain ⟨bk, rfl, hbk⟩ := rb
  have hback : ∀ x, x < n → valV (mergeK [] (kvN ((List.range n).map fun i => (q i, i)))) (kN (p x)) = some (.int ((s x : Nat) : Int)) := fun x hx => by
    have := back_get tab.qi n (Nat.le_refl n) (s x) (tab.sb x hx)
    rw [tab.sf x hx] at this
    exact this
  -- found, met = [], {}
  refine ⟨by show 0 ≤ sizeLine; decide, fun fd0 hfd0 md hmd => ⟨_, _, rfl, ?_⟩⟩
  have eA : Ex H1 (upd (upd H1 fd0 (.lst [])) md (.dK [])) := (Ex.new hfd0).trans (Ex.new hmd)
  have hfm : fd0 ≠ md := fun z => by
    rw [z, upd_same] at hmd
    cases hmd
  generalize hHA : upd (upd H1 fd0 (.lst [])) md (.dK []) = HA at eA
  have hfd : LTN HA (.ref fd0) [] := ⟨fd0, [], rfl, by rw [← hHA, upd_ne hfm, upd_same], .nil⟩
  have hmd' : HA md = some (.dK []) := by rw [← hHA, upd_same]
  -- for start in range(len(two))
  refine q_forR1 (σ := [some v, some (.ref bk), some (.ref fd0), some (.ref md), none, none, none, none, none]) (H := HA) (n := (n : Int)) (a1 (ev_is (ev_lenT (hv0 rfl (e1.trans eA))) (by rw [len_tab]))) (by omega)
    (fun kk σ' H' => ∃ fv ma kvs F y4 y5 y6, σ' = [some v, some (.ref bk), some fv, some (.ref ma), y4, y5, y6, none, none] ∧ Ex HA H' ∧ LTN H' fv F ∧ H' ma = some (.dK kvs) ∧ kvs.length ≤ 30 * kk ∧ (∀ m, (valV kvs (kN m)).isSome = true ↔ ∃ l ∈ F, m ∈ l) ∧ Cyc n s kk F ∧ F.length ≤ kk)
    (fun H2 e2 => ⟨.ref fd0, md, [], [], none, none, none, rfl, e2, mLTN _ _ _ _ e2 hfd, e2 md _ hmd', Nat.le_refl 0, fun m => by simp [valV], Cyc.start, Nat.le_refl 0⟩) (fun kk σ' H' hk hp => ?_) (fun σ' H' hp => ?_)
  · obtain ⟨fv, ma, kvs, F, y4, y5, y6, rfl, e, rF, hma, hz, hin, cyc, hF⟩ := hp
    have hkn : kk < n := Int.ofNat_lt.mp hk
    have e0 : Ex H H' := (e1.trans eA).trans e
    have hbk' : H' bk = _ := (eA.trans e) bk _ hbk
    -- tie, here = (), start
    refine q_par (σ := [some v, some (.ref bk), some fv, some (.ref ma), some (.int (kk : Int)), y5, y6, none, none]) mTN.m (er_tup (R := NatR) (xs := []) monT_nat.m Rg.ea_nil (by decide)) (ev_v rfl) fun tv H2 e2 rt => ?_
    -- while here not in met
    refine q_while (σ := [some v, some (.ref bk), some fv, some (.ref ma), some (.int (kk : Int)), some tv, some (.int ((it s 0 kk : Nat) : Int)), none, none]) (fun m σ' H3 => ∃ i ma kvs tv, m + i = n ∧ σ' = [some v, some (.ref bk), some fv, some (.ref ma), some (.int (kk : Int)), some tv, some (.int ((it s i kk : Nat) : Int)), none, none] ∧ Ex H2 H3 ∧ Run n s F kk i ∧ H3 ma = some (.dK kvs) ∧ kvs.length ≤ 30 * kk + i ∧
        (∀ m, (valV kvs (kN m)).isSome = true ↔ (∃ l ∈ F, m ∈ l) ∨ m ∈ itL s i kk) ∧ TN H3 tv (itL s i kk)) n ⟨0, ma, kvs, tv, Nat.add_zero n, rfl, Ex.refl H2, Run.zero, e2 ma _ hma, hz, fun m => by rw [hin m]; exact ⟨.inl, fun h => h.elim id fun z => absurd z (by simp [itL])⟩, rt⟩ ?_
    rintro m σ' H3 ⟨i, ma, kvs, tv, hm, rfl, e3, run, hma, hz, hin, rt⟩
    refine ⟨!(valV kvs (kN (it s i kk))).isSome, et_dnin (m := it s i kk) (ev_v rfl) (ev_v rfl) hma, fun hb H4 e4 => ?_, fun hb H4 e4 => ?_⟩
    · -- a turn
      have hout : ¬ ((∃ l ∈ F, it s i kk ∈ l) ∨ it s i kk ∈ itL s i kk) := fun z => by
        rw [(hin _).mpr z] at hb
        cases hb
      have run' := run.step hout
      have hle := run'.le tab hkn
      have hx := it_lt tab hkn i
      refine ⟨fun σ5 H5 => ∃ ma kvs tv, σ5 = [some v, some (.ref bk), some fv, some (.ref ma), some (.int (kk : Int)), some tv, some (.int ((it s (i + 1) kk : Nat) : Int)), none, none] ∧ Ex H2 H5 ∧ H5 ma = some (.dK kvs) ∧ kvs.length ≤ 30 * kk + (i + 1) ∧
        (∀ m, (valV kvs (kN m)).isSome = true ↔ (∃ l ∈ F, m ∈ l) ∨ m ∈ itL s (i + 1) kk) ∧ TN H5 tv (itL s (i + 1) kk), fun σ5 H5 hN => ?_, ?_⟩
      · obtain ⟨ma, kvs, tv, rfl, e5, h6, h7, h8, h9⟩ := hN
        exact ⟨n - (i + 1), by omega, i + 1, ma, kvs, tv, by omega, rfl, e5, run', h6, h7, h8, h9⟩
      · have hx0 : ∀ {H5 : Hp}, Ex H4 H5 → Ex H H5 := fun e5 => (((e0.trans e2).trans e3).trans e4).trans e5
        refine s_par3 (σ := [some v, some (.ref bk), some fv, some (.ref ma), some (.int (kk : Int)), some tv, some (.int ((it s i kk : Nat) : Int)), none, none]) (S := TN) (y := itL s i kk ++ [it s i kk]) (v3 := .int ((s (it s i kk) : Nat) : Int)) (Pa := fun v H5 => ∃ mp, v = .ref mp ∧ H5 mp = some (.dK (putK kvs (kN (it s i kk)) (.int (kk : Int)))))
          (fun Q q => up_go (i := 3) (j := 6) (l := 4) (k := kN (it s i kk)) (u := .int (kk : Int)) rfl (e4 ma _ hma) rfl rfl (by omega) fun mp H5 e5 hmp => q _ H5 e5 ⟨mp, rfl, hmp⟩) mTN.m
          (er_catT (K := K) (R := NatR) (xs := itL s i kk) (ys := [it s i kk]) monT_nat.m (er_var mTN.m rfl (mTN.m _ _ _ _ e4 rt)) (er_tup monT_nat.m (Rg.ea_cons monT_nat.m (er_nat (ev_v rfl)) Rg.ea_nil) (by show 1 ≤ 100000; decide)) (by rw [len_itL]; show i + 1 ≤ 100000; omega))
          (ev_dget (m := p (it s i kk)) (ev_v rfl) (ev_nat (er_ixT (i := 0) monT_nat.m (er_ixT (K := K) (i := it s i kk) mTN.m (hv0 rfl (hx0 (Ex.refl H4))) (ev_v rfl) (get_tab hx)) ev_c rfl)) (((e2.trans e3).trans e4) bk _ hbk') (hback _ hx)) fun v1 tv2 H5 H7 e5 hmp e7 rt2 => ?_
        obtain ⟨mp, rfl, hmp⟩ := hmp
        refine ⟨mp, _, tv2, rfl, ((e3.trans e4).trans e5).trans e7, e7 mp _ hmp, ?_, fun m => ?_, by rw [itL_succ]; exact rt2⟩
        · have h1 := length_putK kvs (kN (it s i kk)) (.int (kk : Int))
          omega
        · rw [valV_put, itL_succ, List.mem_append, List.mem_singleton]
          by_cases z : m = it s i kk
          · subst z
            rw [if_pos rfl]
            simp
          · rw [if_neg fun q => z (kN_inj q), hin m]
            exact ⟨fun h => h.elim .inl fun h => .inr (.inl h), fun h => h.elim .inl fun h => h.elim .inr fun h => absurd h z⟩
    · -- home
      have hin2 : (∃ l ∈ F, it s i kk ∈ l) ∨ it s i kk ∈ itL s i kk := (hin _).mp (by
        rw [Bool.not_eq_false'] at hb
        exact hb)
      have hle := run.le tab hkn
      have rF4 := mLTN _ _ _ _ (e2.trans (e3.trans e4)) rF
      have rt4 := mTN.m _ _ _ _ e4 rt
      have e04 := (e.trans e2).trans (e3.trans e4)
      cases i with
      | zero =>
        have hf := run.first rfl hin2
        refine s_asgE (σ := [some v, some (.ref bk), some fv, some (.ref ma), some (.int (kk : Int)), some tv, some (.int ((it s 0 kk : Nat) : Int)), none, none]) (R := LTN) (x := F ++ []) (er_cat mTN (er_var mLTN rfl rF4) (er_if (b := false) (et_test (ev_is (ev_neTN (K := K) (l := itL s 0 kk) (m := []) (er_var mTN.m rfl rt4) (er_tup monT_nat.m Rg.ea_nil (by decide))) rfl)) (fun z => absurd z Bool.noConfusion) fun _ => er_lst mTN Rg.ea_nil (by decide)) (by show F.length + 0 ≤ 100000; omega)) fun fv2 H5 e5 r5 => ?_
        rw [List.append_nil] at r5
        refine ⟨fv2, ma, kvs, F, _, _, _, rfl, e04.trans e5, r5, e5 ma _ (e4 ma _ hma), by omega, fun m => ?_, cyc.skip hf, by omega⟩
        rw [hin m]
        exact ⟨fun h => h.elim id fun z => absurd z (by simp [itL]), .inl⟩
      | succ i =>
        have hne : decide (itL s (i + 1) kk = []) = false := decide_eq_false fun z => by
          have := congrArg List.length z
          rw [len_itL] at this
          cases this
        refine s_asgE (σ := [some v, some (.ref bk), some fv, some (.ref ma), some (.int (kk : Int)), some tv, some (.int ((it s (i + 1) kk : Nat) : Int)), none, none]) (R := LTN) (x := F ++ [srt (itL s (i + 1) kk)]) (er_cat mTN (er_var mLTN rfl rF4) (er_if (b := true) (et_test (ev_is (ev_neTN (K := K) (l := itL s (i + 1) kk) (m := []) (er_var mTN.m rfl rt4) (er_tup monT_nat.m Rg.ea_nil (by decide))) (by rw [hne]; rfl)))
          (fun _ => er_lst mTN (Rg.ea_cons mTN.m (er_tupOf (K := K) monT_nat.m (er_sortT (K := K) (er_var mTN.m rfl rt4))) Rg.ea_nil) (by show 1 ≤ 100000; decide)) (fun z => absurd z Bool.noConfusion)) (by show F.length + 1 ≤ 100000; omega)) fun fv2 H5 e5 r5 => ?_
        refine ⟨fv2, ma, kvs, F ++ [srt (itL s (i + 1) kk)], _, _, _, rfl, e04.trans e5, r5, e5 ma _ (e4 ma _ hma), by omega, fun m => ?_, cyc.add tab hkn run hin2 (srt_perm _) (srt_asc _), by rw [List.length_append]; show F.length + 1 ≤ kk + 1; omega⟩
        rw [hin m]
        constructor
        · rintro (⟨l, hl, hm⟩ | h)
          · exact ⟨l, List.mem_append_left _ hl, hm⟩
          · exact ⟨_, List.mem_append_right _ (List.mem_singleton.mpr rfl), (srt_perm _).mem_iff.mpr h⟩
        · rintro ⟨l, hl, hm⟩
          rcases List.mem_append.mp hl with h | h
          · exact .inl ⟨l, h, hm⟩
          · rw [List.mem_singleton] at h
            rw [h] at hm
            exact .inr ((srt_perm _).mem_iff.mp hm)
  · obtain ⟨fv, ma, kvs, F, y4, y5, y6, rfl, e, rF, hma, hz, hin, cyc, hF⟩ := hp
    rw [Int.toNat_natCast] at cyc
    exact ⟨_, rfl, k fv H' F ((e1.trans eA).trans e) cyc.ties rF⟩
end
end Rg
/-! ties_of, count_two. -/
namespace Rg
open PySem L2 Evl RgR RgM
section
variable {P : Program} {w : World} {K : PySem.W.Frag} {mg : Str → Option Value} {base : Heap}
section
variable {σ : L2.St} {H : Hp} {ta tb : TE} {v u : V} {n : Nat} {p q s t : Nat → Nat} {L : List (List Nat)}
theorem er_ties (h : Ev ta σ H v) (hv : TTN H v (tabD n p q)) (T : Tab2 n p q s t) (h1 : 1 ≤ n) (h20 : n ≤ 20) (I : IsTies n s L) : Er LTN (tCall spTies [] E0 (tCons ta tNil)) σ H L :=
  er_call (a1 h) fun H1 e Q k => ⟨v, n, p, q, s, t, rfl, mTTN.m _ _ _ _ e hv, T, h1, h20, fun v' H2 M e2 J r => k v' H2 e2 (J.unique I ▸ r)⟩
end
def rIsNo : R2 := fun x y H Q => y = .non ∧ Q (.bl (decide (x = .non))) H
theorem op_isNo {X : Cx} : OpR X (compareOp .Is) rIsNo := op_isN
theorem ev_isNo {σ : L2.St} {H : Hp} {ta : TE} {v : V} {b : Bool} (h : Ev ta σ H v) (e : decide (v = .non) = b) : Ev (tOp rIsNo ta (tC .non)) σ H (.bl b) := ev_op h ev_c fun H4 e4 Q k => ⟨rfl, by
  rw [e]
  exact k H4 (Ex.refl H4)⟩
theorem ties_ex {n : Nat} {p q s t : Nat → Nat} (T : Tab2 n p q s t) : ∃ L, IsTies n s L := by
  have go : ∀ k, k ≤ n → ∃ F, Cyc n s k F := fun k => by
    induction k with
    | zero => intro _; exact ⟨[], Cyc.start⟩
    | succ k ih =>
      intro hk
      obtain ⟨F, cyc⟩ := ih (by omega)
      have step : ∀ m i, m + i = n → Run n s F k i → ∃ F', Cyc n s (k + 1) F' := fun m => by
        induction m with
        | zero =>
          intro i hi run
          by_cases z : (∃ l ∈ F, it s i k ∈ l) ∨ it s i k ∈ itL s i k
          · cases i with
            | zero => exact ⟨F, cyc.skip (run.first rfl z)⟩
            | succ i => exact ⟨F ++ [srt (itL s (i + 1) k)], cyc.add T (by omega) run z (srt_perm _) (srt_asc _)⟩
          · have := (run.step z).le T (by omega)
            omega
        | succ m ihm =>
          intro i hi run
          by_cases z : (∃ l ∈ F, it s i k ∈ l) ∨ it s i k ∈ itL s i k
          · cases i with
            | zero => exact ⟨F, cyc.skip (run.first rfl z)⟩
            | succ i => exact ⟨F ++ [srt (itL s (i + 1) k)], cyc.add T (by omega) run z (srt_perm _) (srt_asc _)⟩
          · exact ihm (i + 1) (by omega) (run.step z)
      exact step n 0 (by omega) Run.zero
  obtain ⟨F, cyc⟩ := go n (Nat.le_refl n)
  exact ⟨F, cyc.ties⟩
theorem ok_ties_of {f : Addr} {fd : FuncData} (F : Fun K "ties_of" "ties_of" s_ties_of f fd) (C1 : Cal P w K mg base 4 "need_two" ["value"] (spTabV .non)) (C2 : Cal P w K mg base 1 "ties_in" ["two"] spTies) : FnOk P w K mg base CX0 5 f fd ["two"] spTies := by
  refine F.ok sc_ties_of spTies_len (fun cdv A outer st H vs Q E hr h => ?_)
  obtain ⟨v, n, p, q, s, t, rfl, hv, tab, h1, h20, k⟩ := h
  refine ⟨_, pss_cons (ps_expr (pe_cal C1 hr (by rfl) (pa_cons (pv 0) pa_nil))) (pss_one (ps_ret (pe_cal C2 (hr.mono (by decide)) (by rfl) (pa_cons (pv 0) pa_nil)))), ?_⟩
  refine q_drop (σ := [some v]) (ev_tabV (ev_v rfl) hv tab h1 h20) fun H1 e1 => ?_
  obtain ⟨L, I⟩ := ties_ex tab
  exact er_ties (σ := [some v]) (ev_v rfl) (mTTN.m _ _ _ _ e1 hv) tab h1 h20 I H1 (Ex.refl H1) _ fun v' H2 e2 r => k v' H2 L (e1.trans e2) I r
/-- of a table and nothing told: how many -/
def spCount : Sp := fun vs H Q _ => ∃ (v : V) (b : Addr) (n : Nat) (p q s t : Nat → Nat) (L : List (List Nat)), vs = [v, .ref b] ∧ TTN H v (tabD n p q) ∧ Tab2 n p q s t ∧ 1 ≤ n ∧ n ≤ 20 ∧ H b = some (.tup []) ∧ IsTies n s L ∧ ∀ H', Ex H H' → Q (.int ((2 ^ L.length : Nat) : Int)) H'
theorem ok_count_two {f : Addr} {fd : FuncData} (F : Fun K "count_two" "count_two" s_count_two f fd) (T : Bl mg) (C1 : Cal P w K mg base 4 "need_two" ["value"] (spTabV .non)) (C2 : Cal P w K mg base 3 "need_told" ["table", "value"] (spTold .non)) (C3 : Cal P w K mg base 1 "ties_in" ["two"] spTies)
    (C4 : Cal P w K mg base 1 "power" ["many"] spPow) (C5 : Cal P w K mg base 1 "free_in" ["ties", "told"] (spTies0 fun L H v => LTN H v L)) (C6 : Cal P w K mg base 1 "apart_in" ["ties", "told"] (spTies0 fun _ _ v => v = .non)) : FnOk P w K mg base CX0 5 f fd ["two", "told"] spCount := by
  refine F.ok sc_count_two (fun vs H Q E h => ?_) (fun cdv A outer st H vs Q E hr h => ?_)
  · obtain ⟨v, b, n, p, q, s, t, L, rfl, _⟩ := h
    rfl
  obtain ⟨v, b, n, p, q, s, t, L, rfl, hv, tab, h1, h20, hb, I, k⟩ := h
  have nd := sc_count_two.nd
  have hr1 : Room 1 _ := hr.mono (by decide)
  refine ⟨_, pss_cons (ps_expr (pe_cal C1 hr (by rfl) (pa_cons (pv 0) pa_nil))) (pss_cons (ps_expr (pe_cal C2 (hr.mono (by decide)) (by rfl) (pa_cons (pv 0) (pa_cons (pv 1) pa_nil))))
    (pss_cons (ps_set (i := 2) nd rfl (Or.inl rfl) (pe_cal C3 hr1 (by rfl) (pa_cons (pv 0) pa_nil)))
    (pss_one (ps_ret (pe_ifExp (pt_cmpR op_isNo (pe_cal C6 hr1 (by rfl) (pa_cons (pv 2) (pa_cons (pv 1) pa_nil))) pe_non (nomark _)) (pe_cal C4 hr1 (by rfl) (pa_cons (pe_callB (cLen K) (by rfl) T.b_len PySem.boot_len (pa_cons (pe_cal C5 hr1 (by rfl) (pa_cons (pv 2) (pa_cons (pv 1) pa_nil))) pa_nil)) pa_nil)) pe_int))))), ?_⟩
  refine q_drop (σ := [some v, some (.ref b), none]) (ev_tabV (ev_v rfl) hv tab h1 h20) fun H1 e1 => ?_
  refine q_drop (σ := [some v, some (.ref b), none]) (ev_told (ev_v rfl) (ev_v rfl) (mTTN.m _ _ _ _ e1 hv) tab h1 h20 (e1 b _ hb)) fun H2 e2 => ?_
  have e12 := e1.trans e2
  refine q_asgE (σ := [some v, some (.ref b), none]) (er_ties (ev_v rfl) (mTTN.m _ _ _ _ e12 hv) tab h1 h20 I) fun tv H3 e3 r3 => ?_
  have e13 := e12.trans e3
  obtain ⟨z1, z2, z3⟩ := ties_small I
  have hz3 : ∀ l ∈ L, l.length ≤ 4000 := fun l hl => by
    have := z3 l hl
    omega
  have eAp : Ev (tCall (spTies0 fun _ _ v => v = .non) [] E0 (tCons (tVar 2) (tCons (tVar 1) tNil))) [some v, some (.ref b), some tv] H3 .non := ev_call (a2 (ev_v rfl) (ev_v rfl)) fun H4 e4 Q k => ⟨tv, b, L, rfl, mLTN _ _ _ _ e4 r3, by omega, by omega, hz3, (e13.trans e4) b _ hb, fun v' H5 e5 ev => by
    cases ev
    exact k H5 e5⟩
  have eFr : Er LTN (tCall (spTies0 fun L H v => LTN H v L) [] E0 (tCons (tVar 2) (tCons (tVar 1) tNil))) [some v, some (.ref b), some tv] H3 L := er_call (a2 (ev_v rfl) (ev_v rfl)) fun H4 e4 Q k => ⟨tv, b, L, rfl, mLTN _ _ _ _ e4 r3, by omega, by omega, hz3, (e13.trans e4) b _ hb, fun v' H5 e5 r => k v' H5 e5 r⟩
  refine ev_if (σ := [some v, some (.ref b), some tv]) (v := .int ((2 ^ L.length : Nat) : Int)) (b := true) (et_test (ev_isNo eAp rfl)) (fun _ => ev_call (a1 (ev_lenL eFr)) fun H4 e4 Q k => ⟨L.length, rfl, by omega, k⟩) (fun z => absurd z Bool.noConfusion) H3 (Ex.refl H3) _ fun H4 e4 => k H4 (e13.trans e4)
end
end Rg
/-! The cup: _law_cup, _law_roll. -/
namespace Rg
open PySem L2 Evl RgR RgM
/-- all but the cup stays -/
def ExC (c : Addr) (H H' : Hp) : Prop := ∀ a o, a ≠ c → H a = some o → H' a = some o
def Cup (H : Hp) (c : Addr) : Prop := ∃ A B : Int, H c = some (.lst [.int A, .int B])
def IntR : Rl Int := fun _ v i => v = .int i
theorem monT_int : MonT IntR := fun _ _ _ _ _ h => h
section
variable {c : Addr} {H H1 H2 : Hp}
theorem ExC.refl (c : Addr) (H : Hp) : ExC c H H := fun _ _ _ h => h
theorem ExC.of (c : Addr) (e : Ex H H1) : ExC c H H1 := fun a o _ h => e a o h
theorem ExC.trans (e : ExC c H H1) (f : ExC c H1 H2) : ExC c H H2 := fun a o n h => f a o n (e a o n h)
theorem ExC.upd {o : HO} (e : ExC c H H1) : ExC c H (L2.upd H1 c o) := fun a u n h => by
  rw [upd_ne n]
  exact e a u n h
theorem Cup.ex (h : Cup H c) (e : Ex H H1) : Cup H1 c := by
  obtain ⟨A, B, hc⟩ := h
  exact ⟨A, B, e c _ hc⟩
theorem ExC.t (h : Cup H c) (e : ExC c H H1) : ExT H H1 := fun a xs ha => by
  refine e a _ (fun z => ?_) ha
  obtain ⟨A, B, hc⟩ := h
  rw [z, hc] at ha
  cases ha
end
section
variable {P : Program} {w : World} {K : PySem.W.Frag} {mg : Str → Option Value} {base : Heap}
def rInt1 : List V → Hp → VK → Prop := fun xs H Q => (∃ i, xs = [.int i] ∧ Q (.int i) H) ∨ ∃ k, xs = [.bl k] ∧ Q (.int (if k then 1 else 0)) H
theorem cInt {X : Cx} : CallR X (.type "int") rInt1 := call_int1
def rAbs1 : List V → Hp → VK → Prop := fun xs H Q => ∃ i, xs = [.int i] ∧ Q (.int (if i < 0 then -i else i)) H
theorem cAbs {X : Cx} : CallR X (.builtin "abs") rAbs1 := call_abs
section
variable {σ : L2.St} {H : Hp} {ta tb te : TE} {i j : Int}
theorem ev_int1 (h : Ev ta σ H (.int i)) : Ev (tCB rInt1 (tCons ta tNil)) σ H (.int i) := ev_cb (a1 h) fun H1 _ Q q => .inl ⟨i, rfl, q H1 (Ex.refl H1)⟩
theorem ev_abs1 (h : Ev ta σ H (.int i)) : Ev (tCB rAbs1 (tCons ta tNil)) σ H (.int (if i < 0 then -i else i)) := ev_cb (a1 h) fun H1 _ Q q => ⟨i, rfl, q H1 (Ex.refl H1)⟩
theorem er_listOf {a : Addr} {ns : List Int} (h : Ev ta σ H (.ref a)) (hs : SqL K H a (ns.map V.int)) : Er (LstR IntR) (tCB (rListS K) (tCons ta tNil)) σ H ns := fun H1 e Q q =>
  h H1 e _ fun H2 e2 => ⟨a, _, rfl, .inl (ex_l (e.trans e2) hs), fun l nl => q (.ref l) _ (e2.trans (Ex.new nl)) ⟨l, _, rfl, upd_same, by
    clear q hs
    induction ns with
    | nil => exact .nil
    | cons n ns ih => exact .cons rfl ih⟩⟩
theorem ev_intE {x : Int} (h : Er IntR te σ H x) : Ev te σ H (.int x) := fun H1 e Q q => h H1 e _ fun v H2 e2 r => by
  cases r
  exact q H2 e2
theorem er_intE {x : Int} (h : Ev te σ H (.int x)) : Er IntR te σ H x := fun H1 e Q q => h H1 e _ fun H2 e2 => q _ H2 e2 rfl
end
/-! ### _law_cup -/
def spCup : Sp := fun vs H Q _ => ∃ (a : Addr) (ns : List Int), vs = [.ref a] ∧ SqL K H a (ns.map V.int) ∧ ns.length ≤ 63 ∧ ∀ c H', H c = none → Ex H H' → Cup H' c → Q (.ref c) H'
theorem ok_cup {f : Addr} {fd : FuncData} (F : Fun K "_law_cup" "_law_cup" s_Lcup f fd) (T : Bl mg) : FnOk P w K mg base CX0 1 f fd ["_law_script"] (spCup (K := K)) := by
  refine F.ok sc_Lcup (fun vs H Q E h => ?_) (fun cdv A outer st H vs Q E hr h => ?_)
  · obtain ⟨a, ns, rfl, _⟩ := h
    rfl
  obtain ⟨a, ns, rfl, hs, hl, k⟩ := h
  have nd := sc_Lcup.nd
  refine ⟨_, pss_cons (ps_set (i := 1) nd rfl (Or.inl rfl) (pe_callB cAbs (by rfl) T.b_abs (by decide +kernel) (pa_cons (pe_ix (iL K) (pe_op op_cat (pe_callTy (cList K) (by rfl) T.b_list (by decide +kernel) (pa_cons (pv 0) pa_nil)) (pe_lst (pa_cons pe_int pa_nil))) pe_int (fun _ _ => rfl)) pa_nil)))
    (pss_one (ps_ret (pe_lst (pa_cons (pe_ifExp (pt_cmpR op_ge (pv 1) (pe_op op_pow pe_int pe_int) (nomark _)) (pe_op op_fdiv (pv 1) pe_int) pe_int)
      (pa_cons (pe_op op_add (pe_op op_mod (pe_callTy cInt (by rfl) T.b_int (by decide +kernel) (pa_cons (pe_op op_add (pe_op op_mul (pv 1) pe_int) pe_int) pa_nil)) pe_int) pe_int) pa_nil))))), ?_⟩
  obtain ⟨x, hx⟩ : ∃ x, (ns ++ [0])[0]? = some x := ⟨_, List.getElem?_eq_getElem (by rw [List.length_append]; show 0 < ns.length + 1; omega)⟩
  refine q_asg (σ := [some (.ref a), none]) (ev_abs1 (ev_intE (er_ixL (K := K) (i := 0) monT_int.m (er_cat monT_int (er_listOf (K := K) (ev_v rfl) hs) (er_lst monT_int (Rg.ea_cons monT_int.m (er_intE ev_c) Rg.ea_nil) (by show 1 ≤ 100000; decide)) (by show ns.length + 1 ≤ 100000; omega)) ev_c hx))) fun H1 e1 => ?_
  generalize (if x < 0 then -x else x) = y
  refine Evl.el_lst (σ := [some (.ref a), some (.int y)]) (a2 (x := .int (if decide ((10 : Int) ^ 18 ≤ y) = true then y / 29 else 0)) (ev_if (b := decide ((10 : Int) ^ 18 ≤ y)) (et_test (ev_op (ev_v rfl) (ev_op ev_c ev_c (rv_I (by refine ⟨?_, ?_, ?_⟩ <;> decide))) rv_I0)) (fun hb => ev_is (ev_op (ev_v rfl) ev_c (rv_I (by refine ⟨?_, ?_⟩ <;> decide))) (by rw [if_pos hb])) (fun hb => ev_is ev_c (by rw [hb]; rfl)))
    (ev_op (ev_op (ev_int1 (ev_op (ev_op (ev_v rfl) ev_c (rv_I (.inr (by refine ⟨?_, ?_⟩ <;> decide)))) ev_c rv_I0)) ev_c (rv_I (by decide))) ev_c rv_I0)) (by show 2 ≤ 100000; decide) H1 (Ex.refl H1) _ fun p H2 np e2 hp => k p H2 (fresh_back e1 np) (e1.trans e2) ⟨_, _, hp⟩
/-! ### _law_roll -/
def spRoll : Sp := fun vs H Q _ => ∃ (c : Addr) (m : Nat), vs = [.ref c, .int (m : Int)] ∧ Cup H c ∧ 1 ≤ m ∧ m ≤ 1000 ∧ ∀ (r : Nat) H', r < m → ExC c H H' → Cup H' c → Q (.int (r : Int)) H'
theorem mod_nat {x : Int} {m : Nat} (hm : 1 ≤ m) : ∃ r : Nat, x % (m : Int) = (r : Int) ∧ r < m := by
  have h1 := Int.emod_nonneg x (b := (m : Int)) (by omega)
  have h2 := Int.emod_lt_of_pos x (b := (m : Int)) (by omega)
  exact ⟨(x % (m : Int)).toNat, (Int.toNat_of_nonneg h1).symm, by omega⟩
theorem ok_roll {f : Addr} {fd : FuncData} (F : Fun K "_law_roll" "_law_roll" s_Lroll f fd) (T : Bl mg) : FnOk P w K mg base CX0 1 f fd ["_law_cup_here", "_law_many"] spRoll := by
  refine F.ok sc_Lroll (fun vs H Q E h => ?_) (fun cdv A outer st H vs Q E hr h => ?_)
  · obtain ⟨c, m, rfl, _⟩ := h
    rfl
  obtain ⟨c, m, rfl, ⟨a, b, hc⟩, hm, hm2, k⟩ := h
  have nd := sc_Lroll.nd
  have pInt : bootBuiltins "int" = some (.type "int") := by decide +kernel
  refine ⟨_, pss_cons (ps_if (pt_cmpR op_gt (pe_ix (iL K) (pv 0) pe_int (fun _ _ => rfl)) pe_int (nomark _))
      (pss_cons (ps_set (i := 2) nd rfl (Or.inl rfl) (pe_op op_mod (pe_callTy cInt (by rfl) T.b_int pInt (pa_cons (pe_ix (iL K) (pv 0) pe_int (fun _ _ => rfl)) pa_nil)) (pv 1)))
      (pss_cons (ps_asg (pe_op op_fdiv (pe_ix (iL K) (pv 0) pe_int (fun _ _ => rfl)) (pv 1)) (pg_sub (pv 0) pe_int set_list)) (pss_one (ps_ret (pv 2))))) pss_nil)
    (pss_cons (ps_asg (pe_op op_mod (pe_callTy cInt (by rfl) T.b_int pInt (pa_cons (pe_op op_add (pe_op op_mul (pe_ix (iL K) (pv 0) pe_int (fun _ _ => rfl)) pe_int) pe_int) pa_nil)) pe_int) (pg_sub (pv 0) pe_int set_list))
    (pss_cons (ps_set (i := 3) nd rfl (Or.inl rfl) (pe_op op_mod (pe_callTy cInt (by rfl) T.b_int pInt (pa_cons (pe_op op_mul (pe_ix (iL K) (pv 0) pe_int (fun _ _ => rfl)) (pe_op op_add (pe_ix (iL K) (pv 0) pe_int (fun _ _ => rfl)) pe_int)) pa_nil)) pe_int))
    (pss_one (ps_ret (pe_op op_mod (pe_callTy cInt (by rfl) T.b_int pInt (pa_cons (pe_op op_fdiv (pv 3) pe_int) pa_nil)) (pv 1)))))), ?_⟩
  have ix0 : ∀ {σ : L2.St} {H1 : Hp} {x y : Int}, σ[0]? = some (some (V.ref c)) → H1 c = some (.lst [.int x, .int y]) → Ev (tOp (rIxL K) (tVar 0) (tC (.int 0))) σ H1 (.int x) := fun h h1 => ev_op (ev_v h) ev_c (rv_ixL (sq_of h1) rfl)
  have ix1 : ∀ {σ : L2.St} {H1 : Hp} {x y : Int}, σ[0]? = some (some (V.ref c)) → H1 c = some (.lst [.int x, .int y]) → Ev (tOp (rIxL K) (tVar 0) (tC (.int 1))) σ H1 (.int y) := fun h h1 => ev_op (ev_v h) ev_c (rv_ixL (sq_of h1) rfl)
  refine q_when (σ := [some (.ref c), some (.int (m : Int)), none, none]) (b := decide ((0 : Int) < a)) (et_test (ev_op (ix0 rfl hc) ev_c rv_I0)) (fun _ H1 e1 => ?_) (fun _ H1 e1 => ?_)
  · have hc1 := e1 c _ hc
    obtain ⟨r, er, hr⟩ := mod_nat (x := a) hm
    refine q_asg (σ := [some (.ref c), some (.int (m : Int)), none, none]) (v := .int (r : Int)) (ev_is (ev_op (ev_int1 (ix0 rfl hc1)) (ev_v rfl) (rv_I (by omega))) (by rw [er])) fun H2 e2 => ?_
    have hc2 := e2 c _ hc1
    refine q_setL (σ := [some (.ref c), some (.int (m : Int)), some (.int (r : Int)), none]) (j := 0) hc2 (ev_op (ix0 rfl hc2) (ev_v rfl) (rv_I ⟨by omega, by omega⟩)) (ev_v rfl) ev_c (by show 0 < 2; decide) fun H3 e3 => ?_
    exact ⟨_, rfl, k r _ hr (ExC.of c ((e1.trans e2).trans e3)).upd ⟨_, _, upd_same⟩⟩
  · have hc1 := e1 c _ hc
    obtain ⟨y, hy⟩ : ∃ y : Int, y = (b * 30911 + 7901) % 2147483423 := ⟨_, rfl⟩
    have y0 : 0 ≤ y := by omega
    have y1 : y < 2147483423 := by omega
    refine q_setL (σ := [some (.ref c), some (.int (m : Int)), none, none]) (j := 1) (v := .int y) hc1 (ev_is (ev_op (ev_int1 (ev_op (ev_op (ix1 rfl hc1) ev_c (rv_I (.inr (by refine ⟨?_, ?_⟩ <;> decide)))) ev_c rv_I0)) ev_c (rv_I (by decide))) (by rw [hy])) (ev_v rfl) ev_c (by show 1 < 2; decide) fun H2 e2 => ?_
    have hc2 : (upd H2 c (.lst [.int a, .int y])) c = some (.lst [.int a, .int y]) := upd_same
    show tSeq _ _ _ _ (upd H2 c (.lst [.int a, .int y]))
    obtain ⟨z, hz⟩ : ∃ z : Int, z = (y * (y + 179)) % 2147483587 := ⟨_, rfl⟩
    refine q_asg (σ := [some (.ref c), some (.int (m : Int)), none, none]) (v := .int z) (ev_is (ev_op (ev_int1 (ev_op (ix1 rfl hc2) (ev_op (ix1 rfl hc2) ev_c rv_I0) (rv_I (.inl ⟨by omega, by omega⟩)))) ev_c (rv_I (by decide))) (by rw [hz])) fun H3 e3 => ?_
    obtain ⟨r, er, hr⟩ := mod_nat (x := z / 751) hm
    refine ev_is (σ := [some (.ref c), some (.int (m : Int)), none, some (.int z)]) (w := .int (r : Int)) (ev_op (ev_int1 (ev_op (ev_v rfl) ev_c (rv_I (by refine ⟨?_, ?_⟩ <;> decide)))) (ev_v rfl) (rv_I (by omega))) (by rw [er]) H3 (Ex.refl H3) _ fun H4 e4 => ?_
    exact k r H4 hr ((ExC.of c (e1.trans e2)).upd.trans (ExC.of c (e3.trans e4))) ⟨_, _, e4 c _ (e3 c _ hc2)⟩
end
end Rg
/-! _law_way, _law_table. -/
namespace Rg
open PySem L2 Evl RgR RgM
section
variable {c p : Addr} {H H1 H2 : Hp}
theorem ExC.put {o : HO} (e : ExC c H H1) (n : H p = none) : ExC c H (L2.upd H1 p o) := fun a u h ha => by
  have hp : a ≠ p := ne_of_none ha n
  rw [upd_ne hp]
  exact e a u h ha
theorem Cup.put {o : HO} (h : Cup H c) (n : p ≠ c) : Cup (L2.upd H p o) c := by
  obtain ⟨A, B, hc⟩ := h
  exact ⟨A, B, by rw [upd_ne n.symm]; exact hc⟩
theorem Cup.ne (h : Cup H c) (n : H p = none) : p ≠ c := fun z => by
  obtain ⟨A, B, hc⟩ := h
  rw [z, hc] at n
  cases n
theorem rgV_v (n : Nat) : rgV 0 (n : Int) = vN (List.range n) := by
  unfold rgV vN
  have e : ((n : Int) - 0).toNat = n := by omega
  rw [e]
  refine List.map_congr_left fun i _ => ?_
  rw [Int.zero_add]
theorem vN_set (ns : List Nat) (i x : Nat) : (vN ns).set i (.int (x : Int)) = vN (ns.set i x) := by
  unfold vN
  rw [List.map_set]
end
section
variable {P : Program} {w : World} {K : PySem.W.Frag} {mg : Str → Option Value} {base : Heap}
theorem roll_go {σ : L2.St} {H : Hp} {t : TA} {c : Addr} {m : Nat} {Q : VK} (hc : Cup H c) (h : EvA t σ H [.ref c, .int (m : Int)]) (h1 : 1 ≤ m) (h2 : m ≤ 1000) (q : ∀ (r : Nat) H', r < m → ExC c H H' → Cup H' c → Q (.int (r : Int)) H') : tCall spRoll [] E0 t σ H Q :=
  h H (Ex.refl H) _ fun H1 e1 => by
    rw [List.append_nil]
    exact ⟨c, m, rfl, hc.ex e1, h1, h2, fun r H' hr e2 c2 => q r H' hr ((ExC.of c e1).trans e2) c2⟩
theorem q_roll {σ : L2.St} {H : Hp} {t : TA} {c : Addr} {m i : Nat} {D : Ends} {tz : TS} (hc : Cup H c) (h : EvA t σ H [.ref c, .int (m : Int)]) (h1 : 1 ≤ m) (h2 : m ≤ 1000) (q : ∀ (r : Nat) H', r < m → ExC c H H' → Cup H' c → tz D (σ.set i (some (.int (r : Int)))) H') : tSeq (tAsg (tCall spRoll [] E0 t) (gName i)) tz D σ H :=
  roll_go hc h h1 h2 fun r H' hr e c' => q r H' hr e c'
theorem s_asgT {σ : L2.St} {H : Hp} {t : TA} {g : TG} {vs : List V} {D : Ends} (h : EvA t σ H vs) (hl : vs.length ≤ 100000) (k : ∀ p H1, Ex H H1 → H1 p = some (.tup vs) → g (.ref p) σ H1 D.nx) : tAsg (tTup t) g D σ H := eu_tup h hl H (Ex.refl H) _ fun p H1 _ e h1 => k p H1 e h1
/-- of the cup: a list of the numbers below m in some order -/
def spWay : Sp := fun vs H Q _ => ∃ (c : Addr) (m : Nat), vs = [.ref c, .int (m : Int)] ∧ Cup H c ∧ 1 ≤ m ∧ m ≤ 20 ∧ ∀ a (ns : List Nat) H', H a = none → ns.Perm (List.range m) → ExC c H H' → Cup H' c → H' a = some (.lst (vN ns)) → Q (.ref a) H'
theorem ok_way {f : Addr} {fd : FuncData} (F : Fun K "_law_way" "_law_way" s_Lway f fd) (T : Bl mg) (C1 : Cal P w K mg base 1 "_law_roll" ["_law_cup_here", "_law_many"] spRoll) : FnOk P w K mg base CX0 2 f fd ["_law_cup_here", "_law_many"] spWay := by
  refine F.ok sc_Lway (fun vs H Q E h => ?_) (fun cdv A outer st H vs Q E hr h => ?_)
  · obtain ⟨c, m, rfl, _⟩ := h
    rfl
  obtain ⟨c, m, rfl, hc, h1, h20, k⟩ := h
  have nd := sc_Lway.nd
  refine ⟨_, pss_cons (ps_set (i := 2) nd rfl (Or.inl rfl) (pe_listRg rfl (by rfl) T.b_list (prg_1 (by rfl) T.b_range (pv 1))))
    (pss_cons (ps_if (pt_cmpR op_gt (pe_cal C1 hr (by rfl) (pa_cons (pv 0) (pa_cons pe_int pa_nil))) pe_int (nomark _))
      (pss_one (ps_for PassesOwn.never rfl (pi_range1 (by rfl) T.b_range (pa_cons (pv 1) pa_nil)) (pg_name (i := 3) nd rfl (Or.inl rfl))
        (pss_cons (ps_set (i := 4) nd rfl (Or.inl rfl) (pe_cal C1 hr (by rfl) (pa_cons (pv 0) (pa_cons (pv 1) pa_nil))))
        (pss_one (ps_asg (pe_tup (pa_cons (pe_ix (iL K) (pv 2) (pv 4) (fun _ _ => rfl)) (pa_cons (pe_ix (iL K) (pv 2) (pv 3) (fun _ _ => rfl)) pa_nil)))
          (gT2 K rfl (pgs_cons (pg_sub (pv 2) (pv 3) set_list) (pgs_cons (pg_sub (pv 2) (pv 4) set_list) pgs_nil)))))))) pss_nil)
    (pss_one (ps_ret (pv 2)))), ?_⟩
  -- found = list(range(many))
  refine ⟨_, rfl, _, rfl, ⟨by decide, by decide, by omega, by omega, by omega⟩, fun fa nfa => ?_⟩
  have hne : fa ≠ c := hc.ne nfa
  have hcA : Cup (upd H fa (.lst (rgV 0 (m : Int)))) c := hc.put hne
  have eA : ExC c H (upd H fa (.lst (rgV 0 (m : Int)))) := (ExC.refl c H).put nfa
  have hfA : (upd H fa (.lst (rgV 0 (m : Int)))) fa = some (.lst (vN (List.range m))) := by rw [upd_same, rgV_v]
  generalize upd H fa (.lst (rgV 0 (m : Int))) = HA at hcA eA hfA
  -- if _law_roll(cup, 5) > 0
  refine roll_go (σ := [some (.ref c), some (.int (m : Int)), some (.ref fa), none, none]) (m := 5) hcA (a2 (ev_v rfl) ev_c) (by decide) (by decide) fun r H2 hr e2 hc2 => ⟨(r : Int), 0, rfl, rfl, _, rfl, ?_⟩
  have hf2 : H2 fa = some (.lst (vN (List.range m))) := e2 fa _ hne hfA
  cases hb : decide ((0 : Int) < (r : Int)) with
  | false => exact ⟨_, rfl, k fa (List.range m) H2 nfa (List.Perm.refl _) (eA.trans e2) hc2 hf2⟩
  | true =>
    refine s_forR1 (σ := [some (.ref c), some (.int (m : Int)), some (.ref fa), none, none]) (n := (m : Int)) (a1 (ev_v rfl)) (by omega)
      (fun i σ' H' => ∃ (ns : List Nat) (y3 y4 : Option V), σ' = [some (.ref c), some (.int (m : Int)), some (.ref fa), y3, y4] ∧ ns.Perm (List.range m) ∧ ExC c H H' ∧ Cup H' c ∧ H' fa = some (.lst (vN ns)))
      (fun H3 e3 => ⟨List.range m, none, none, rfl, List.Perm.refl _, (eA.trans e2).trans (ExC.of c e3), hc2.ex e3, e3 fa _ hf2⟩) (fun i σ' H' hi hp => ?_) (fun σ' H' hp => ?_)
    · obtain ⟨ns, y3, y4, rfl, hp, e, hc', hf'⟩ := hp
      have hi' : i < m := Int.ofNat_lt.mp hi
      have hlen : ns.length = m := by rw [hp.length_eq, List.length_range]
      refine q_roll (σ := [some (.ref c), some (.int (m : Int)), some (.ref fa), some (.int (i : Int)), y4]) (m := m) hc' (a2 (ev_v rfl) (ev_v rfl)) h1 (by omega) fun j H3 hj e3 hc3 => ?_
      have hf3 := e3 fa _ hne hf'
      have gi : ns[i]? = some (ns[i]'(by omega)) := List.getElem?_eq_getElem _
      have gj : ns[j]? = some (ns[j]'(by omega)) := List.getElem?_eq_getElem _
      have hli : i < (vN ns).length := by rw [len_vN]; omega
      have hlj : j < (vN ns).length := by rw [len_vN]; omega
      refine s_asgT (σ := [some (.ref c), some (.int (m : Int)), some (.ref fa), some (.int (i : Int)), some (.int (j : Int))]) (a2 (ev_op (ev_v rfl) (ev_v rfl) (rv_ixL (sq_of hf3) (atI_nat (get_vN gj)))) (ev_op (ev_v rfl) (ev_v rfl) (rv_ixL (sq_of hf3) (atI_nat (get_vN gi))))) (by show 2 ≤ 100000; decide) fun tp H4 e4 htp => ?_
      have hf4 := e4 fa _ hf3
      have hc4 := hc3.ex e4
      refine ⟨tp, _, rfl, .inl (.inl htp), rfl, _, _, rfl, .ref fa, rfl, .int (i : Int), rfl, fa, vN ns, (i : Int), i, rfl, rfl, hf4, ixN_nat hli, _, _, rfl, .ref fa, rfl, .int (j : Int), rfl, fa, _, (j : Int), j, rfl, rfl, upd_same, ixN_nat (by rw [List.length_set]; exact hlj), rfl, ?_⟩
      refine ⟨(ns.set i (ns[j]'(by omega))).set j (ns[i]'(by omega)), _, _, rfl, ?_, ?_, ?_, ?_⟩
      · exact (List.set_set_perm (by omega) (by omega)).trans hp
      · exact (((e.trans e3).trans (ExC.of c e4)).put nfa).put nfa
      · exact (hc4.put hne).put hne
      · rw [upd_same, vN_set, vN_set]
    · obtain ⟨ns, y3, y4, rfl, hp, e, hc', hf'⟩ := hp
      exact ⟨_, rfl, k fa ns H' nfa hp e hc' hf'⟩
end
end Rg
/-! _law_table. -/
namespace Rg
open PySem L2 Evl RgR RgM
theorem getD_some {ns : List Nat} {i : Nat} (h : i < ns.length) : ns[i]? = some (ns.getD i 0) := by
  rw [List.getD_eq_getElem?_getD, List.getElem?_eq_getElem h]
  rfl
theorem perm_lt {ns : List Nat} {n i : Nat} (h : ns.Perm (List.range n)) (hi : i < n) : ns.getD i 0 < n := by
  have hl : ns.length = n := by rw [h.length_eq, List.length_range]
  have hg := getD_some (ns := ns) (i := i) (by omega)
  exact List.mem_range.mp (h.mem_iff.mp (List.mem_of_getElem? hg))
theorem perm_inj {ns : List Nat} {n i j : Nat} (h : ns.Perm (List.range n)) (hi : i < n) (hj : j < n) (e : ns.getD i 0 = ns.getD j 0) : i = j := by
  have hl : ns.length = n := by rw [h.length_eq, List.length_range]
  have hn : ns.Nodup := h.nodup_iff.mpr List.nodup_range
  have h1 := getD_some (ns := ns) (i := i) (by omega)
  have h2 := getD_some (ns := ns) (i := j) (by omega)
  rw [e] at h1
  exact (List.getElem?_inj (by omega) hn).mp (h1.trans h2.symm)
theorem perm_onto {ns : List Nat} {n x : Nat} (h : ns.Perm (List.range n)) (hx : x < n) : ∃ j, j < n ∧ ns.getD j 0 = x := by
  have hl : ns.length = n := by rw [h.length_eq, List.length_range]
  obtain ⟨j, hj, e⟩ := List.getElem_of_mem (h.mem_iff.mpr (List.mem_range.mpr hx))
  refine ⟨j, by omega, ?_⟩
  have h1 := getD_some (ns := ns) (i := j) hj
  rw [List.getElem?_eq_getElem hj, e] at h1
  exact (Option.some.inj h1).symm
theorem tab2_of {ns ms : List Nat} {n : Nat} (h : ns.Perm (List.range n)) (k : ms.Perm (List.range n)) : ∃ s t, Tab2 n (fun i => ns.getD i 0) (fun i => ms.getD i 0) s t := by
  have h1 : ∀ x, ∃ j, x < n → j < n ∧ ms.getD j 0 = ns.getD x 0 := fun x => by
    by_cases hx : x < n
    · obtain ⟨j, hj, e⟩ := perm_onto k (perm_lt h hx)
      exact ⟨j, fun _ => ⟨hj, e⟩⟩
    · exact ⟨0, fun z => absurd z hx⟩
  have h2 : ∀ x, ∃ j, x < n → j < n ∧ ms.getD j 0 = x := fun x => by
    by_cases hx : x < n
    · obtain ⟨j, hj, e⟩ := perm_onto k hx
      exact ⟨j, fun _ => ⟨hj, e⟩⟩
    · exact ⟨0, fun z => absurd z hx⟩
  obtain ⟨s, hs⟩ := Classical.axiomOfChoice h1
  obtain ⟨t, ht⟩ := Classical.axiomOfChoice h2
  exact ⟨s, t, fun x hx => perm_lt h hx, fun x hx => perm_lt k hx, fun x hx => (hs x hx).1, fun x hx => (ht x hx).1, fun x y hx hy e => perm_inj h hx hy e, fun x y hx hy e => perm_inj k hx hy e, fun x hx => (hs x hx).2, fun x hx => (ht x hx).2⟩
section
variable {P : Program} {w : World} {K : PySem.W.Frag} {mg : Str → Option Value} {base : Heap}
theorem way_go {σ : L2.St} {H : Hp} {t : TA} {c : Addr} {m : Nat} {Q : VK} (hc : Cup H c) (h : EvA t σ H [.ref c, .int (m : Int)]) (h1 : 1 ≤ m) (h2 : m ≤ 20) (q : ∀ a (ns : List Nat) H', H a = none → ns.Perm (List.range m) → ExC c H H' → Cup H' c → H' a = some (.lst (vN ns)) → Q (.ref a) H') : tCall spWay [] E0 t σ H Q :=
  h H (Ex.refl H) _ fun H1 e1 => by
    rw [List.append_nil]
    exact ⟨c, m, rfl, hc.ex e1, h1, h2, fun a ns H' na hp e2 c2 ha => q a ns H' (fresh_back e1 na) hp ((ExC.of c e1).trans e2) c2 ha⟩
theorem q_asgP {σ : L2.St} {H : Hp} {te : TE} {i : Nat} {D : Ends} {tz : TS} (Pv : V → Hp → Prop) (h : ∀ Q : VK, (∀ v H1, Pv v H1 → Q v H1) → te σ H Q) (k : ∀ v H1, Pv v H1 → tz D (σ.set i (some v)) H1) : tSeq (tAsg te (gName i)) tz D σ H := h _ k
def Two (c : Addr) (n : Nat) (H : Hp) (v : V) (H' : Hp) : Prop := ∃ (D a0 a1 : Addr) (ns0 ns1 : List Nat), v = .ref D ∧ H D = none ∧ D ≠ c ∧ ExC c H H' ∧ Cup H' c ∧ H' D = some (.lst [.ref a0, .ref a1]) ∧ (a0 ≠ c ∧ a0 ≠ D ∧ H' a0 = some (.lst (vN ns0)) ∧ ns0.Perm (List.range n)) ∧ (a1 ≠ c ∧ a1 ≠ D ∧ H' a1 = some (.lst (vN ns1)) ∧ ns1.Perm (List.range n))
theorem some_go {H : Hp} {c : Addr} {n : Nat} {Q : VK} (hc : Cup H c) (h1 : 1 ≤ n) (h20 : n ≤ 20) (k : ∀ v H', Two c n H v H' → Q v H') : tLc (iRng1 (tCons (tVar 2) tNil)) (gName 4) tYes (tCall spWay [] E0 (tCons (tVar 0) (tCons (tVar 1) tNil))) [4] [some (.ref c), some (.int (n : Int)), some (.int 2), none, none, none, none] H Q := by
  refine ⟨.int 2, rfl, 2, rfl, by omega, by omega, fun D hD => ?_⟩
  obtain ⟨B, eB0⟩ : ∃ B, B = H := ⟨H, rfl⟩
  have eB : Ex H B := by rw [eB0]; exact Ex.refl H
  rw [← eB0] at hD ⊢
  have hcB := hc.ex eB
  have hDc : D ≠ c := hcB.ne hD
  refine lc_range (lo := 0) (n := 2) (fun i H' => ∃ L : List (Addr × List Nat), L.length = i ∧ ExC c B H' ∧ Cup H' c ∧ H' D = some (.lst (L.map fun x => .ref x.1)) ∧ ∀ x ∈ L, x.1 ≠ c ∧ x.1 ≠ D ∧ H' x.1 = some (.lst (vN x.2)) ∧ x.2.Perm (List.range n))
    ⟨[], rfl, (ExC.refl c B).put hD, hcB.put hDc, upd_same, fun x hx => absurd hx (by simp)⟩ (fun i H' hi hp => ⟨rfl, ?_⟩) fun H' hp => ?_
  · obtain ⟨L, hL, e, hc', hd, hall⟩ := hp
    show tCall spWay [] E0 (tCons (tVar 0) (tCons (tVar 1) tNil)) _ H' _
    refine way_go (σ := [some (.ref c), some (.int (n : Int)), some (.int 2), none, some (.int (0 + (i : Int))), none, none]) (m := n) hc' (a2 (ev_v rfl) (ev_v rfl)) h1 h20 fun a ns H4 na hp e4 c4 ha => ?_
    have haD : a ≠ D := fun z => by
      rw [z, hd] at na
      cases na
    refine ⟨_, e4 D _ hDc hd, by rw [List.length_map, hL]; exact Nat.lt_of_lt_of_le hi (by decide), L ++ [(a, ns)], by rw [List.length_append, hL]; rfl, (e.trans e4).put hD, c4.put hDc, by rw [upd_same, List.map_append]; rfl, fun x hx => ?_⟩
    rcases List.mem_append.mp hx with h | h
    · obtain ⟨z1, z2, z3, z4⟩ := hall x h
      exact ⟨z1, z2, by rw [upd_ne z2]; exact e4 _ _ z1 z3, z4⟩
    · rw [List.mem_singleton] at h
      subst h
      exact ⟨hc'.ne na, haD, by rw [upd_ne haD]; exact ha, hp⟩
  obtain ⟨L, hL, e, hc', hd, hall⟩ := hp
  match L, hL, hd, hall with
  | [(a0, ns0), (a1, ns1)], _, hd, hall =>
    obtain ⟨x1, x2, x3, x4⟩ := hall (a0, ns0) (by simp)
    obtain ⟨y1, y2, y3, y4⟩ := hall (a1, ns1) (by simp)
    have eH : ExC c H H' := (ExC.of c eB).trans e
    exact k _ H' ⟨D, a0, a1, ns0, ns1, rfl, fresh_back eB hD, hDc, eH, hc', hd, ⟨x1, x2, x3, x4⟩, ⟨y1, y2, y3, y4⟩⟩
/-- of the cup: a table of two ways -/
def spTable : Sp := fun vs H Q _ => ∃ (c : Addr) (n : Nat), vs = [.ref c, .int (n : Int), .int 2] ∧ Cup H c ∧ 1 ≤ n ∧ n ≤ 20 ∧ ∀ v (p q s t : Nat → Nat) H', ExC c H H' → Cup H' c → TTN H' v (tabD n p q) → Tab2 n p q s t → Q v H'
theorem ok_table {f : Addr} {fd : FuncData} (F : Fun K "_law_table" "_law_table" s_Ltable f fd) (T : Bl mg) (C1 : Cal P w K mg base 1 "_law_roll" ["_law_cup_here", "_law_many"] spRoll) (C2 : Cal P w K mg base 2 "_law_way" ["_law_cup_here", "_law_many"] spWay) : FnOk P w K mg base CX0 3 f fd ["_law_cup_here", "_law_many", "_law_ways"] spTable := by
  refine F.ok sc_Ltable (fun vs H Q E h => ?_) (fun cdv A outer st H vs Q E hr h => ?_)
  · obtain ⟨c, m, rfl, _⟩ := h
    rfl
  obtain ⟨c, n, rfl, hc, h1, h20, k⟩ := h
  have nd := sc_Ltable.nd
  have hr1 : Room 1 _ := hr.mono (by decide)
  refine ⟨_, pss_cons (ps_set (i := 3) nd rfl (Or.inr rfl) (pe_lc (own := [("_law_turn", 4)]) (g := gName 4) (tt := tYes) rfl nd (pi_range1 (by rfl) T.b_range (pa_cons (pv 2) pa_nil)) (blkOk_by (N := N_Ltable) (sc := defScope s_Ltable) (by decide +kernel)) (fun _ _ _ _ _ => pg_name (i := 4) nd rfl (Or.inl rfl)) (fun _ _ _ _ _ => pts_nil)
      (fun _ _ _ _ _ => pe_cal C2 hr (by rfl) (pa_cons (pv 0) (pa_cons (pv 1) pa_nil)))))
    (pss_cons (ps_if (PW.pt (pw_and (pt_cmpR op_gt (pv 2) pe_int (nomark _)) (pw_and1 (pt_cmpR op_eq (pe_cal C1 hr1 (by rfl) (pa_cons (pv 0) (pa_cons pe_int pa_nil))) pe_int (nomark _)))))
      (pss_one (ps_asg (pe_ix (iL K) (pv 3) pe_int (fun _ _ => rfl)) (pg_sub (pv 3) (pe_un un_neg pe_int) set_list))) pss_nil)
    (pss_one (ps_ret (pe_callTy (cTup K) (by rfl) T.b_tuple (by decide +kernel) (pa_cons (pe_lc (own := [("_law_number", 5)]) (g := gName 5) (tt := tYes) rfl nd (pi_range1 (by rfl) T.b_range (pa_cons (pv 1) pa_nil)) (blkOk_by (N := N_Ltable) (sc := defScope s_Ltable) (by decide +kernel)) (fun _ _ _ _ _ => pg_name (i := 5) nd rfl (Or.inr rfl)) (fun _ _ _ _ _ => pts_nil)
      (fun _ _ _ _ _ => pe_callTy (cTup K) (by rfl) T.b_tuple (by decide +kernel) (pa_cons (pe_lc (own := [("_law_way_here", 6)]) (g := gName 6) (tt := tYes) rfl nd (piL K (pv 3)) (blk_in (N := N_Ltable) (sc0 := defScope s_Ltable) rfl (by decide +kernel)) (fun _ _ _ _ _ => pg_name (i := 6) nd rfl (Or.inl rfl)) (fun _ _ _ _ _ => pts_nil)
        (fun _ _ _ _ _ => pe_ix (iL K) (pv 6) (pv 5) (fun _ _ => rfl))) pa_nil))) pa_nil))))), ?_⟩
  -- some = [..]
  refine q_asgP (σ := [some (.ref c), some (.int (n : Int)), some (.int 2), none, none, none, none]) (Two c n H) (fun Q q => some_go hc h1 h20 q) fun v H' htwo => ?_
  obtain ⟨D, a0, a1, ns0, ns1, rfl, hDH, hDc, eH, hc', hd, ⟨x1, x2, x3, x4⟩, ⟨y1, y2, y3, y4⟩⟩ := htwo
  have fin : ∀ (H6 : Hp) (b : Addr) (ms : List Nat), ExC c H H6 → Cup H6 c → H6 D = some (.lst [.ref a0, .ref b]) → H6 a0 = some (.lst (vN ns0)) → H6 b = some (.lst (vN ms)) → ms.Perm (List.range n) →
      tCB (rTupOf K) (tCons (tLc (iRng1 (tCons (tVar 1) tNil)) (gName 5) tYes (tCB (rTupOf K) (tCons (tLc (iList K (tVar 3)) (gName 6) tYes (tOp (rIxL K) (tVar 6) (tVar 5)) [6]) tNil)) [5]) tNil) [some (.ref c), some (.int (n : Int)), some (.int 2), some (.ref D), none, none, none] H6 Q := fun H6 b ms e6 c6 hd6 h60 h61 hp6 => by
    obtain ⟨s, t, tab⟩ := tab2_of x4 hp6
    have hl0 : ns0.length = n := by rw [x4.length_eq, List.length_range]
    have hl1 : ms.length = n := by rw [hp6.length_eq, List.length_range]
    have LL : LstR LN H6 (.ref D) [ns0, ms] := ⟨D, _, rfl, hd6, .cons (ln_of h60) (.cons (ln_of h61) .nil)⟩
    refine er_tupOf (K := K) (R := TN) mTN.m (er_lcR (n := n) (S := TN) (fun i => [ns0.getD i 0, ms.getD i 0]) mTN (ev_v rfl) (by omega) (fun _ => rfl) (fun i H7 e7 hi => er_tupOf (K := K) monT_nat.m (Er.is (er_lcL1 (K := K) (R := LN) (S := NatR) (fun ns => ns.getD i 0) mLN monT_nat (er_var (mon_lst mLN) rfl (mon_lst mLN _ _ _ _ e7 LL)) (by show 2 ≤ 40000; decide) (fun _ => rfl) (fun ns u H8 e8 hns r => er_ixL (K := K) (i := i) monT_nat.m (er_var mLN rfl r) (ev_v rfl) (getD_some ?_))) rfl))) H6 (Ex.refl H6) _ fun v H9 e9 r9 => k v _ _ s t H9 (e6.trans (ExC.of c e9)) (c6.ex e9) r9 tab
    rcases List.mem_cons.mp hns with rfl | hns
    · omega
    · rw [List.mem_singleton] at hns
      subst hns
      omega
  -- if ways > 1 and ..
  refine (et_test (ev_op (σ := [some (.ref c), some (.int (n : Int)), some (.int 2), some (.ref D), none, none, none]) (ev_v rfl) ev_c rv_I0)) H' (Ex.refl H') _ fun H3 e3 => ?_
  rw [if_pos (by decide)]
  refine roll_go (σ := [some (.ref c), some (.int (n : Int)), some (.int 2), some (.ref D), none, none, none]) (m := 6) (hc'.ex e3) (a2 (ev_v rfl) ev_c) (by decide) (by decide) fun r H4 hr e4 c4 => ⟨rfl, _, rfl, ?_⟩
  have e34 : ExC c H' H4 := (ExC.of c e3).trans e4
  have hd4 := e34 D _ hDc hd
  have h40 := e34 a0 _ x1 x3
  have h41 := e34 a1 _ y1 y3
  cases hb : decide (V.int (r : Int) = V.int 0) with
  | false => exact fin H4 a1 ns1 (eH.trans e34) c4 hd4 h40 h41 y4
  | true =>
    refine (ev_op (σ := [some (.ref c), some (.int (n : Int)), some (.int 2), some (.ref D), none, none, none]) (ev_v rfl) ev_c (rv_ixL (sq_of hd4) (v := .ref a0) rfl)) H4 (Ex.refl H4) _ fun H5 e5 => ?_
    have x2' : D ≠ a0 := fun z => x2 z.symm
    refine ⟨.ref D, rfl, 1, rfl, D, _, -1, 1, rfl, rfl, e5 D _ hd4, rfl, ?_⟩
    refine fin _ a0 ns0 ((eH.trans (e34.trans (ExC.of c e5))).put hDH) ((c4.ex e5).put hDc) upd_same ?_ ?_ x4
    · rw [upd_ne x2]
      exact e5 a0 _ h40
    · rw [upd_ne x2]
      exact e5 a0 _ h40
end
end Rg
/-! Comprehensions that give lists; sums; _law_nexts, _law_is_one, _law_all. -/
namespace Rg
open PySem L2 Evl RgR RgM
/-- a reference from before H0, or new after H1 -/
def Ns (H0 H1 : Hp) (v : V) : Prop := ∃ a, v = .ref a ∧ (H1 a = none ∨ ∃ o, H0 a = some o)
def ErN {β : Type} (H0 : Hp) (S : Rl β) (te : TE) (σ : L2.St) (H : Hp) (y : β) : Prop := ∀ H1, Ex H H1 → ∀ Q : VK, (∀ v H2, Ex H1 H2 → S H2 v y → Ns H0 H1 v → Q v H2) → te σ H1 Q
def StS {β : Type} (S : Rl β) : Prop := ∀ H D xs ys v x, H D = some (.lst xs) → v ≠ .ref D → S H v x → S (upd H D (.lst ys)) v x
/-- a value of R that stood before -/
def OldR {α : Type} (H0 : Hp) (R : Rl α) : Rl α := fun H v x => R H v x ∧ ∃ a o, v = .ref a ∧ H0 a = some o
theorem mon_old {α : Type} {H0 : Hp} {R : Rl α} (m : Mon R) : Mon (OldR H0 R) := fun H H' v x e ⟨r, o⟩ => ⟨m _ _ _ _ e r, o⟩
theorem sts_lst {α : Type} {R : Rl α} (m : MonT R) : StS (LstR R) := fun H D xs ys v x hd hv r => by
  obtain ⟨b, ws, rfl, hb, hp⟩ := r
  have hbd : b ≠ D := fun z => hv (by rw [z])
  refine ⟨b, ws, rfl, by rw [upd_ne hbd]; exact hb, Paired.mono (fun u y r => m _ _ _ _ ?_ r) hp⟩
  exact ExT.put (ExT.refl H) fun zs z => by
    rw [hd] at z
    cases z
def IvX {β : Type} (B : Hp) (D : Addr) (S : Rl β) (ys : List β) (H : Hp) : Prop := B D = none ∧ Ex B H ∧ ∃ vs, H D = some (.lst vs) ∧ Paired (fun v y => S H v y ∧ v ≠ .ref D) vs ys
section
variable {K : PySem.W.Frag} {σ : L2.St} {H H' : Hp} {ta tb te tl : TE} {t : TT} {α β : Type} {R : Rl α} {S : Rl β}
theorem ivx_start {B : Hp} {D : Addr} (hD : B D = none) : IvX B D S [] (upd B D (.lst [])) := ⟨hD, Ex.new hD, [], upd_same, .nil⟩
theorem IvX.ext {B : Hp} {D : Addr} {ys : List β} (mS : Mon S) (iv : IvX B D S ys H) (e : Ex H H') : IvX B D S ys H' := by
  obtain ⟨h1, h2, vs, h3, h4⟩ := iv
  exact ⟨h1, h2.trans e, vs, e D _ h3, Paired.mono (fun u y r => ⟨mS _ _ _ _ e r.1, r.2⟩) h4⟩
theorem IvX.done {B : Hp} {D : Addr} {ys : List β} (iv : IvX B D S ys H) : LstR S H (.ref D) ys := by
  obtain ⟨_, _, vs, h3, h4⟩ := iv
  exact ⟨D, vs, rfl, h3, Paired.mono (fun u y r => r.1) h4⟩
theorem IvX.app {B : Hp} {D : Addr} {ys : List β} {y : β} {v : V} (st : StS S) (iv : IvX B D S ys H) (r : S H v y) (hv : v ≠ .ref D) (hl : ys.length < 100000) :
    ∃ acc, H D = some (.lst acc) ∧ acc.length < sizeLine ∧ IvX B D S (ys ++ [y]) (upd H D (.lst (acc ++ [v]))) := by
  obtain ⟨h1, h2, vs, h3, h4⟩ := iv
  exact ⟨vs, h3, sz_lt (by rw [h4.length]; exact hl), h1, Ex.mut h2 h1, vs ++ [v], upd_same, pr_app (Paired.mono (fun u y r => ⟨st _ _ _ _ _ _ h3 r.2 r.1, r.2⟩) h4) (.cons ⟨st _ _ _ _ _ _ h3 hv r, hv⟩ .nil)⟩
theorem lc_turnX {H0 B : Hp} {D : Addr} {ys : List β} {y : β} {f : Bool} {P : Hp → Prop} {σ2 : L2.St} (mS : Mon S) (st : StS S) (e0 : Ex H0 B) (iv : IvX B D S ys H) (hl : ys.length < 100000) (ht : EvT t σ2 H f) (he : f = true → ∀ H1, Ex H H1 → ErN H0 S te σ2 H1 y)
    (hP : ∀ H5, IvX B D S (if f = true then ys ++ [y] else ys) H5 → P H5) :
    t σ2 H fun b H3 => if b = true then te σ2 H3 fun y' H4 => ∃ acc, H4 D = some (.lst acc) ∧ acc.length < sizeLine ∧ P (upd H4 D (.lst (acc ++ [y']))) else P H3 := by
  refine ht H (Ex.refl H) _ fun H3 e3 => ?_
  cases hf : f with
  | true =>
    show te σ2 H3 fun y' H4 => ∃ acc, H4 D = some (.lst acc) ∧ acc.length < sizeLine ∧ P (upd H4 D (.lst (acc ++ [y'])))
    refine he hf H3 e3 H3 (Ex.refl H3) _ fun v H4 e4 r ns => ?_
    have hv : v ≠ .ref D := by
      obtain ⟨a, rfl, h⟩ := ns
      intro z
      have z : a = D := V.ref.inj z
      subst z
      rcases h with h | ⟨o, h⟩
      · obtain ⟨_, _, vs, h3, _⟩ := iv
        rw [e3 a _ h3] at h
        cases h
      · have := e0 a _ h
        rw [iv.1] at this
        cases this
    obtain ⟨acc, a1, a2, a3⟩ := ((iv.ext mS e3).ext mS e4).app st r hv hl
    exact ⟨acc, a1, a2, hP _ (by rw [if_pos hf]; exact a3)⟩
  | false =>
    show P H3
    exact hP H3 (by rw [if_neg (by rw [hf]; exact Bool.false_ne_true)]; exact iv.ext mS e3)
/-- [e for x in xs if t], the e lists -/
theorem er_lcLX {xs : List α} {j : Nat} {vs : List Nat} (f : α → Bool) (g : α → β) (mR : Mon R) (mS : Mon S) (st : StS S) (h : Er (LstR R) tl σ H xs) (hz : xs.length ≤ 40000) (hw : ∀ x, wipe ((wipe σ vs).set j (some x)) vs = wipe σ vs)
    (ht : ∀ x v H1, Ex H H1 → x ∈ xs → R H1 v x → EvT t ((wipe σ vs).set j (some v)) H1 (f x)) (he : ∀ x v H1, Ex H H1 → x ∈ xs → R H1 v x → f x = true → ErN H S te ((wipe σ vs).set j (some v)) H1 (g x)) :
    Er (LstR S) (tLc (iList K tl) (gName j) t te vs) σ H ((xs.filter f).map g) := fun H0 e Q q => h H0 e _ fun v B eB r => by
  obtain ⟨a, us, rfl, ha, hp⟩ := r
  refine ⟨a, rfl, ⟨us, .inl (.inl ha)⟩, fun D hD => ?_⟩
  refine lc_list (xs := us) (fun i H' => IvX B D S (((xs.take i).filter f).map g) H') (ivx_start hD) (fun i H' _ p => .inl (.inl (p.2.1 a _ ha))) (fun i u H' hi p => ⟨hw u, ?_⟩) fun H' p => ?_
  · obtain ⟨x, hx, rx⟩ := pr_getL hp hi
    have rx' := mR _ _ _ _ p.2.1 rx
    have eH : Ex H H' := (e.trans eB).trans p.2.1
    exact lc_turnX mS st (e.trans eB) p (fm_len f g hz) (ht x u H' eH (List.mem_of_getElem? hx) rx') (fun hf H1 e1 => he x u H1 (eH.trans e1) (List.mem_of_getElem? hx) (mR _ _ _ _ e1 rx') hf) fun H5 i5 => by
      rw [take_fm f g hx]
      exact i5
  · rw [hp.length, List.take_length] at p
    exact q (.ref D) H' (eB.trans p.2.1) p.done
theorem er_lcRX {n : Nat} {j : Nat} {vs : List Nat} (g : Nat → β) (mS : Mon S) (st : StS S) (h : Ev ta σ H (.int (n : Int))) (hz : n ≤ 40000) (hw : ∀ x, wipe ((wipe σ vs).set j (some x)) vs = wipe σ vs)
    (he : ∀ (i : Nat) H1, Ex H H1 → i < n → ErN H S te ((wipe σ vs).set j (some (.int (i : Int)))) H1 (g i)) : Er (LstR S) (tLc (iRng1 (tCons ta tNil)) (gName j) tYes te vs) σ H ((List.range n).map g) := fun H0 e Q q => h H0 e _ fun B eB => by
  refine ⟨(n : Int), rfl, by omega, by omega, fun D hD => ?_⟩
  have en : ((n : Int)).toNat = n := Int.toNat_natCast n
  rw [en]
  refine lc_range (lo := 0) (n := n) (fun i H' => IvX B D S (((List.range n).take i).map g) H') (ivx_start hD) (fun i H' hi p => ⟨hw _, ?_⟩) fun H' p => ?_
  · have e0 : (0 : Int) + (i : Int) = (i : Int) := Int.zero_add _
    show tYes ((wipe σ vs).set j (some (.int ((0 : Int) + (i : Int))))) H' _
    rw [e0]
    have eH : Ex H H' := (e.trans eB).trans p.2.1
    exact lc_turnX (f := true) mS st (e.trans eB) p (rg_len g hz) et_yes (fun _ H1 e1 => he i H1 (eH.trans e1) hi) fun H5 i5 => by
      rw [take_rg g hi]
      exact i5
  · have z : (List.range n).take n = List.range n := List.take_of_length_le (by rw [List.length_range]; exact Nat.le_refl n)
    rw [z] at p
    exact q (.ref D) H' (eB.trans p.2.1) p.done
/-- new lists -/
theorem en_lcR {H0 : Hp} {n : Nat} {j : Nat} {vs : List Nat} (g : Nat → β) (mS : MonT S) (h : Ev ta σ H (.int (n : Int))) (hz : n ≤ 40000) (hw : ∀ x, wipe ((wipe σ vs).set j (some x)) vs = wipe σ vs)
    (he : ∀ (i : Nat) H1, Ex H H1 → i < n → Er S te ((wipe σ vs).set j (some (.int (i : Int)))) H1 (g i)) : ErN H0 (LstR S) (tLc (iRng1 (tCons ta tNil)) (gName j) tYes te vs) σ H ((List.range n).map g) := fun H1 e Q q => h H1 e _ fun B eB => by
  refine ⟨(n : Int), rfl, by omega, by omega, fun D hD => ?_⟩
  have en : ((n : Int)).toNat = n := Int.toNat_natCast n
  rw [en]
  refine lc_range (lo := 0) (n := n) (fun i H' => Iv B D S (((List.range n).take i).map g) H') (iv_start hD) (fun i H' hi p => ⟨hw _, ?_⟩) fun H' p => ?_
  · have e0 : (0 : Int) + (i : Int) = (i : Int) := Int.zero_add _
    show tYes ((wipe σ vs).set j (some (.int ((0 : Int) + (i : Int))))) H' _
    rw [e0]
    have eH : Ex H H' := (e.trans eB).trans p.2.1
    exact lc_turn (f := true) mS p (rg_len g hz) et_yes (fun _ H1 e1 => he i H1 (eH.trans e1) hi) fun H5 i5 => by
      rw [take_rg g hi]
      exact i5
  · have z : (List.range n).take n = List.range n := List.take_of_length_le (by rw [List.length_range]; exact Nat.le_refl n)
    rw [z] at p
    exact q (.ref D) H' (eB.trans p.2.1) p.done ⟨D, rfl, .inl (fresh_back eB hD)⟩
theorem en_lst {H0 : Hp} {t : TA} {xs : List α} (m : Mon R) (h : Ea R t σ H xs) (hl : xs.length ≤ 100000) : ErN H0 (LstR R) (tLst t) σ H xs := fun H1 e Q q =>
  h H1 e _ fun vs H2 e2 rs => ⟨sz_of (by rw [rs.length]; exact hl), fun p hp => q (.ref p) _ (e2.trans (Ex.new hp)) ⟨p, vs, rfl, upd_same, Paired.mono (fun u y r => m _ _ _ _ (Ex.new hp) r) rs⟩ ⟨p, rfl, .inl (fresh_back e2 hp)⟩⟩
theorem er_lstM {t : TA} {xs : List α} (m : Mon R) (h : Ea R t σ H xs) (hl : xs.length ≤ 100000) : Er (LstR R) (tLst t) σ H xs := fun H1 e Q q =>
  h H1 e _ fun vs H2 e2 rs => ⟨sz_of (by rw [rs.length]; exact hl), fun p hp => q (.ref p) _ (e2.trans (Ex.new hp)) ⟨p, vs, rfl, upd_same, Paired.mono (fun u y r => m _ _ _ _ (Ex.new hp) r) rs⟩⟩
theorem er_catM {xs ys : List α} (m : Mon R) (h : Er (LstR R) ta σ H xs) (k : Er (LstR R) tb σ H ys) (hl : xs.length + ys.length ≤ 100000) : Er (LstR R) (tOp rCat ta tb) σ H (xs ++ ys) := fun H1 e Q q =>
  h H1 e _ fun v H2 e2 r => k H2 (e.trans e2) _ fun w H3 e3 s => by
    obtain ⟨a, vs, rfl, ha, hp⟩ := r
    obtain ⟨b, ws, rfl, hb, hq⟩ := s
    refine ⟨a, b, vs, ws, rfl, rfl, e3 a _ ha, hb, sz_of (by rw [hp.length, hq.length]; exact hl), fun p np => q (.ref p) _ ((e2.trans e3).trans (Ex.new np)) ⟨p, _, rfl, upd_same, pr_app ?_ ?_⟩⟩
    · exact Paired.mono (fun u y r => m _ _ _ _ (e3.trans (Ex.new np)) r) hp
    · exact Paired.mono (fun u y r => m _ _ _ _ (Ex.new np) r) hq
/-- sum(lists, []) -/
theorem ll_split {H : Hp} : ∀ {vs : List V} {xss : List (List α)}, Paired (LstR R H) vs xss → ∃ (as : List Addr) (yss : List (List V)), vs = as.map V.ref ∧ Paired (fun p ys => H p = some (.lst ys)) as yss ∧ Paired (fun ys xs => Paired (R H) ys xs) yss xss
  | _, _, .nil => ⟨[], [], rfl, .nil, .nil⟩
  | _, _, .cons r tl => by
    obtain ⟨as, yss, rfl, h1, h2⟩ := ll_split tl
    obtain ⟨a, ws, rfl, ha, hp⟩ := r
    exact ⟨a :: as, ws :: yss, rfl, .cons ha h1, .cons hp h2⟩
theorem pr_flat {F : V → α → Prop} : ∀ {yss : List (List V)} {xss : List (List α)}, Paired (fun ys xs => Paired F ys xs) yss xss → Paired F yss.flatten xss.flatten
  | _, _, .nil => .nil
  | _, _, .cons r tl => pr_app r (pr_flat tl)
theorem er_sum {xss : List (List α)} (m : Mon R) (h : Er (LstR (LstR R)) ta σ H xss) (hne : xss ≠ []) (hl : xss.flatten.length ≤ 100000) : Er (LstR R) (tCB (rSumLs K) (tCons ta (tCons (tLst tNil) tNil))) σ H xss.flatten := fun H1 e Q q => h H1 e _ fun v H2 e2 r => by
  refine ⟨by show 0 ≤ sizeLine; decide, fun b nb => ?_⟩
  obtain ⟨D, vs, rfl, hd, hp⟩ := mon_lst (mon_lst m) _ _ _ _ (Ex.new (o := HO.lst []) nb) r
  obtain ⟨as, yss, rfl, h1, h2⟩ := ll_split hp
  have h3 := pr_flat h2
  refine ⟨D, b, as, yss, rfl, .inl (.inl hd), upd_same, fun z => ?_, h1, sz_of (by rw [h3.length]; exact hl), fun p np => q (.ref p) _ ((e2.trans (Ex.new nb)).trans (Ex.new np)) ⟨p, _, rfl, upd_same, Paired.mono (fun u y r => m _ _ _ _ (Ex.new np) r) h3⟩⟩
  subst z
  cases h1
  cases h2
  exact hne rfl
end
section
variable {P : Program} {w : World} {K : PySem.W.Frag} {mg : Str → Option Value} {base : Heap}
/-! ### _law_nexts, _law_is_one -/
theorem ok_lnexts {f : Addr} {fd : FuncData} (F : Fun K "_law_nexts" "_law_nexts" s_Lnexts f fd) (T : Bl mg) : FnOk P w K mg base CX0 1 f fd ["_law_table_here", "_law_choice"] (spTC (gives nxL)) := by
  refine F.ok sc_Lnexts spTC_len (fun cdv A outer s H vs Q E hr h => ?_)
  obtain ⟨v, u, n, p, q, sf, tf, cs, rfl, hv, tab, h1, h20, hu, hl, h2, k⟩ := h
  have nd := sc_Lnexts.nd
  refine ⟨_, pss_one (ps_ret (pe_callTy (cTup K) (by rfl) T.b_tuple (by decide +kernel) (pa_cons (pe_lc (own := [("_law_at", 2), ("_law_way_here", 3)]) (g := gTup K 2 (gCons (gName 2) (gCons (gName 3) gNil))) (tt := tYes) rfl nd (piE K (by rfl) T.b_enumerate (pa_cons (pv 1) pa_nil))
    (blkOk_by (N := N_Lnexts) (sc := defScope s_Lnexts) (by decide +kernel)) (fun _ _ _ _ _ => gT2 K rfl (pgs_cons (pg_name (i := 2) nd rfl (Or.inl rfl)) (pgs_cons (pg_name (i := 3) nd rfl (Or.inl rfl)) pgs_nil))) (fun _ _ _ _ _ => pts_nil)
      (fun _ _ _ _ _ => pe_ix (iT K) (pe_ix (iT K) (pv 0) (pv 2) (fun _ _ => rfl)) (pv 3) (fun _ _ => rfl))) pa_nil))), ?_⟩
  refine er_tupOf (K := K) (σ := [some v, some u, none, none]) monT_nat.m (er_lcE (K := K) (R := NatR) (S := NatR) (fun i c => ([p i, q i] : List Nat).getD c 0) monT_nat.m monT_nat (er_var mTN.m rfl hu) (by omega) (fun _ _ => rfl) (fun i c z H1 e1 hc r => ?_)) H (Ex.refl H) _ fun v' H7 e7 r7 => k v' H7 e7 ?_
  · cases r
    have hi : i < n := by
      have := (List.getElem?_eq_some_iff.mp hc).1
      omega
    have hc2 := h2 c (List.mem_of_getElem? hc)
    refine er_ixT (i := c) monT_nat.m (er_ixT (K := K) (i := i) mTN.m (er_var mTTN.m rfl (mTTN.m _ _ _ _ e1 hv)) (ev_v rfl) (get_tab hi)) (ev_v rfl) ?_
    match c, hc2 with
    | 0, _ => rfl
    | 1, _ => rfl
  · have e9 : cs.mapIdx (fun i c => ([p i, q i] : List Nat).getD c 0) = nxL n p q cs := by
      apply List.ext_getElem?
      intro i
      unfold nxL
      rw [List.getElem?_mapIdx, List.getElem?_map]
      by_cases hi : i < n
      · have hic : i < cs.length := by omega
        rw [List.getElem?_range hi, List.getElem?_eq_getElem hic]
        show some (([p i, q i] : List Nat).getD cs[i] 0) = some (nx p q cs i)
        have hb := h2 _ (List.getElem_mem hic)
        have e : cs.getD i 0 = cs[i] := by rw [List.getD_eq_getElem?_getD, List.getElem?_eq_getElem hic] <;> rfl
        unfold nx
        rw [e]
        have hz : cs[i] = 0 ∨ cs[i] = 1 := by omega
        rcases hz with z | z <;> rw [z] <;> rfl
      · have e1 : cs[i]? = none := List.getElem?_eq_none (by omega)
        have e2 : (List.range n)[i]? = none := List.getElem?_eq_none (by rw [List.length_range]; omega)
        rw [e1, e2]
        rfl
    rw [e9] at r7
    exact r7
def spOne : Sp := fun vs H Q _ => ∃ (v : V) (ns : List Nat), vs = [v] ∧ TN H v ns ∧ ns.length ≤ 20 ∧ ∀ H', Ex H H' → Q (.bl (decide ns.Nodup)) H'
theorem ok_is_one {f : Addr} {fd : FuncData} (F : Fun K "_law_is_one" "_law_is_one" s_Lis_one f fd) (T : Bl mg) : FnOk P w K mg base CX0 1 f fd ["_law_nexts_here"] spOne := by
  refine F.ok sc_Lis_one (fun vs H Q E h => ?_) (fun cdv A outer s H vs Q E hr h => ?_)
  · obtain ⟨v, ns, rfl, _⟩ := h
    rfl
  obtain ⟨v, ns, rfl, hv, h20, k⟩ := h
  refine ⟨_, pss_one (ps_ret (pe_cmpR op_eq (pe_callB (cLenSet w) (by rfl) T.b_len PySem.boot_len (pa_cons (pe_callTy (cSet K w) (by rfl) T.b_set PyProof.Rows.boot_set (pa_cons (pv 0) pa_nil)) pa_nil)) (pe_callB (cLen K) (by rfl) T.b_len PySem.boot_len (pa_cons (pv 0) pa_nil)) (nomark _))), ?_⟩
  have er0 : Er TN (tVar 0) [some v] H ns := er_var mTN.m rfl hv
  refine ev_is (σ := [some v]) (w := .bl (decide ns.Nodup)) (ev_eqN (a := dc ns) (b := ns.length) (ev_lenSetT er0 (by omega)) (ev_lenT er0)) ?_ H (Ex.refl H) _ fun H1 e1 => k H1 e1
  rw [V.bl.injEq, Bool.eq_iff_iff, decide_eq_true_eq, decide_eq_true_eq]
  exact dc_nodup ns
/-! ### _law_all -/
def spAll : Sp := fun vs H Q _ => ∃ n : Nat, vs = [.int (n : Int), .int 2] ∧ n ≤ 6 ∧ ∀ v H', Ex H H' → LTN H' v (allC n) → Q v H'
theorem ok_all {f : Addr} {fd : FuncData} (F : Fun K "_law_all" "_law_all" s_Lall f fd) (T : Bl mg) : FnOk P w K mg base CX0 1 f fd ["_law_many", "_law_ways"] spAll := by
  refine F.ok sc_Lall (fun vs H Q E h => ?_) (fun cdv A outer s H vs Q E hr h => ?_)
  · obtain ⟨n, rfl, _⟩ := h
    rfl
  obtain ⟨n, rfl, h6, k⟩ := h
  have nd := sc_Lall.nd
  refine ⟨_, pss_cons (ps_set (i := 2) nd rfl (Or.inl rfl) (pe_lst (pa_cons (pe_tup pa_nil) pa_nil)))
    (pss_cons (ps_for PassesOwn.never rfl (pi_range1 (by rfl) T.b_range (pa_cons (pv 0) pa_nil)) (pg_name (i := 3) nd rfl (Or.inl rfl))
      (pss_one (ps_set (i := 2) nd rfl (Or.inl rfl) (pe_callB (cSum K) (by rfl) T.b_sum (by decide +kernel) (pa_cons (pe_lc (own := [("_law_row", 4)]) (g := gName 4) (tt := tYes) rfl nd (piL K (pv 2)) (blkOk_by (N := N_Lall) (sc := defScope s_Lall) (by decide +kernel)) (fun _ _ _ _ _ => pg_name (i := 4) nd rfl (Or.inr rfl)) (fun _ _ _ _ _ => pts_nil)
        (fun _ _ _ _ _ => pe_lc (own := [("_law_way_here", 5)]) (g := gName 5) (tt := tYes) rfl nd (pi_range1 (by rfl) T.b_range (pa_cons (pv 1) pa_nil)) (blk_in (N := N_Lall) (sc0 := defScope s_Lall) rfl (by decide +kernel)) (fun _ _ _ _ _ => pg_name (i := 5) nd rfl (Or.inl rfl)) (fun _ _ _ _ _ => pts_nil)
          (fun _ _ _ _ _ => pe_op (oCatT K) (pv 4) (pe_tup (pa_cons (pv 5) pa_nil))))) (pa_cons (pe_lst pa_nil) pa_nil))))))
    (pss_one (ps_ret (pv 2)))), ?_⟩
  refine q_asgE (σ := [some (.int (n : Int)), some (.int 2), none, none, none, none]) (R := LTN) (x := allC 0) (er_lst mTN (Rg.ea_cons mTN.m (er_tup monT_nat.m Rg.ea_nil (by decide)) Rg.ea_nil) (by show 1 ≤ 100000; decide)) fun u H1 e1 r1 => ?_
  refine q_forR1 (σ := [some (.int (n : Int)), some (.int 2), some u, none, none, none]) (n := (n : Int)) (a1 (ev_v rfl)) (by omega) (fun i σ' H' => ∃ u y3, σ' = [some (.int (n : Int)), some (.int 2), some u, y3, none, none] ∧ Ex H H' ∧ LTN H' u (allC i))
    (fun H2 e2 => ⟨u, none, rfl, e1.trans e2, mLTN _ _ _ _ e2 r1⟩) (fun i σ' H' hi hp => ?_) (fun σ' H' hp => ?_)
  · obtain ⟨u, y3, rfl, e, r⟩ := hp
    have hi' : i < n := Int.ofNat_lt.mp hi
    have hlen : (allC i).length ≤ 64 := by
      rw [length_allC]
      exact Nat.le_trans (Nat.pow_le_pow_right (by decide) (by omega : i ≤ 6)) (by decide)
    have hlen1 : (allC (i + 1)).length ≤ 64 := by
      rw [length_allC]
      exact Nat.le_trans (Nat.pow_le_pow_right (by decide) (by omega : i + 1 ≤ 6)) (by decide)
    refine s_asgE (σ := [some (.int (n : Int)), some (.int 2), some u, some (.int (i : Int)), none, none]) (R := LTN) (x := allC (i + 1)) (er_sum (K := K) (R := TN) mTN.m (Er.is (er_lcLX (K := K) (R := TN) (S := LTN) (fun _ => true) (fun r => [r ++ [0], r ++ [1]]) mTN.m mLTN (sts_lst mTN) (er_var mLTN rfl r) (by omega) (fun _ => rfl) (fun _ _ _ _ _ _ => et_yes)
      (fun row z H2 e2 hrow rr _ => en_lcR (n := 2) (S := TN) (fun x => row ++ [x]) mTN (ev_v rfl) (by decide) (fun _ => rfl) (fun j H3 e3 hj => er_catT (K := K) (R := NatR) monT_nat.m (er_var mTN.m rfl (mTN.m _ _ _ _ e3 rr)) (er_tup monT_nat.m (Rg.ea_cons monT_nat.m (er_nat (ev_v rfl)) Rg.ea_nil) (by show 1 ≤ 100000; decide)) ?_))) (all_fm _ _)) ?_ ?_) fun u2 H2 e2 r2 => ⟨u2, _, rfl, e.trans e2, r2⟩
    · have hr := (mem_allC.mp hrow).1
      show row.length + 1 ≤ 100000
      omega
    · intro z
      have := congrArg List.length z
      rw [List.length_map, length_allC] at this
      have hp : 0 < 2 ^ i := Nat.pow_pos (by decide)
      simp at this
    · show (allC (i + 1)).length ≤ 100000
      omega
  · obtain ⟨u, y3, rfl, e, r⟩ := hp
    rw [Int.toNat_natCast] at r
    exact ⟨_, rfl, k u H' e r⟩
end
end Rg
/-! _law_ties. -/
namespace Rg
open PySem L2 Evl RgR RgM
/-! ### plain -/
theorem lots_small {n : Nat} {s : Nat → Nat} {J : Nat → Prop} {L : List (List Nat)} (h : Lots n s J L) : L.flatten.length ≤ n ∧ L.length ≤ n ∧ ∀ l ∈ L, l.length ≤ n := by
  have hnd : L.flatten.Nodup := nodup_flatten (fun l hl => asc_nodup (h.asc l hl)) h.disj
  have h1 := len_le_of_sub (m := List.range n) hnd (fun x hx => by
    obtain ⟨l, hl, hxl⟩ := List.mem_flatten.mp hx
    exact List.mem_range.mpr (h.sub l hl x hxl))
  rw [List.length_range] at h1
  have h2 : ∀ M : List (List Nat), (∀ l ∈ M, l ≠ []) → M.length ≤ M.flatten.length := fun M => by
    induction M with
    | nil => intro _; exact Nat.le_refl 0
    | cons l M ih =>
      intro h
      have a := ih fun l hl => h l (List.mem_cons_of_mem _ hl)
      have b := List.length_pos_iff.mpr (h l List.mem_cons_self)
      rw [List.flatten_cons, List.length_append, List.length_cons]
      omega
  have h3 := h2 L h.ne
  refine ⟨h1, by omega, fun l hl => ?_⟩
  have h4 := len_le_of_sub (m := List.range n) (asc_nodup (h.asc l hl)) fun x hx => List.mem_range.mpr (h.sub l hl x hx)
  rw [List.length_range] at h4
  exact h4
theorem flat_filter_le {f : List Nat → Bool} : ∀ L : List (List Nat), (L.filter f).flatten.length ≤ L.flatten.length
  | [] => Nat.le_refl 0
  | l :: L => by
    have ih := flat_filter_le (f := f) L
    rw [List.filter_cons]
    by_cases z : f l = true
    · rw [if_pos z, List.flatten_cons, List.flatten_cons, List.length_append, List.length_append]
      omega
    · rw [if_neg z, List.flatten_cons, List.length_append]
      omega
theorem iN_lt : ∀ {l m : List Nat}, iN l < iN m ↔ l < m
  | [], [] => ⟨fun h => absurd h (by simp [iN]), fun h => absurd h (by simp)⟩
  | [], m :: ms => ⟨fun _ => by simp, fun _ => by simp [iN]⟩
  | l :: ls, [] => ⟨fun h => absurd h (by simp [iN]), fun h => absurd h (by simp)⟩
  | l :: ls, m :: ms => by
    show (l : Int) :: iN ls < (m : Int) :: iN ms ↔ _
    rw [List.cons_lt_cons_iff, List.cons_lt_cons_iff, iN_lt (l := ls) (m := ms), Int.ofNat_lt, Int.ofNat_inj]
def encB (l : List Nat) : Int × List Int := ((l.headD 0 : Int), iN l.tail)
def decB (b : Int × List Int) : List Nat := (b.1 :: b.2).map Int.toNat
theorem iN_cons {l : List Nat} (h : l ≠ []) : (encB l).1 :: (encB l).2 = iN l := by
  cases l with
  | nil => exact absurd rfl h
  | cons a l => rfl
theorem dec_enc {l : List Nat} (h : l ≠ []) : decB (encB l) = l := by
  unfold decB
  rw [iN_cons h, iN_to]
/-- the lists of numbers, sorted -/
theorem sort_enc {L : List (List Nat)} (hne : ∀ l ∈ L, l ≠ []) : ∃ M : List (List Nat), ((L.map encB).mergeSort fun p q => decide ((p.1 :: p.2) ≤ (q.1 :: q.2))) = M.map encB ∧ M.Perm L ∧ M.Pairwise fun l m => ¬ m < l := by
  generalize hS : ((L.map encB).mergeSort fun p q => decide ((p.1 :: p.2) ≤ (q.1 :: q.2))) = S
  have hp : S.Perm (L.map encB) := hS ▸ List.mergeSort_perm _ _
  have hm : ∀ b ∈ S, ∃ l, l ≠ [] ∧ encB l = b := fun b hb => by
    obtain ⟨l, hl, e⟩ := List.mem_map.mp (hp.mem_iff.mp hb)
    exact ⟨l, hne l hl, e⟩
  have hs : S.Pairwise fun p q => (p.1 :: p.2) ≤ (q.1 :: q.2) := by
    have h := List.pairwise_mergeSort (le := fun p q : Int × List Int => decide ((p.1 :: p.2) ≤ (q.1 :: q.2))) (fun a b c h1 h2 => by
      rw [decide_eq_true_eq] at h1 h2 ⊢
      exact List.le_trans h1 h2) (fun a b => by
      rw [Bool.or_eq_true, decide_eq_true_eq, decide_eq_true_eq]
      exact List.le_total _ _) (L.map encB)
    rw [hS] at h
    exact h.imp fun {a b} z => of_decide_eq_true z
  have hb : S = (S.map decB).map encB := by
    rw [List.map_map]
    refine (List.map_congr_left (g := id) fun b hb => ?_).symm ▸ (List.map_id S).symm
    obtain ⟨l, hl, rfl⟩ := hm b hb
    show encB (decB (encB l)) = encB l
    rw [dec_enc hl]
  refine ⟨S.map decB, hb, ?_, ?_⟩
  · have h1 := hp.map decB
    rw [List.map_map] at h1
    have h2 : L.map (decB ∘ encB) = L := by
      refine (List.map_congr_left (g := id) fun l hl => ?_).trans (List.map_id L)
      exact dec_enc (hne l hl)
    rw [h2] at h1
    exact h1
  · refine List.pairwise_map.mpr (List.Pairwise.imp_of_mem (fun {a b} ha hb hab => ?_) hs)
    obtain ⟨l, hl, rfl⟩ := hm a ha
    obtain ⟨m, hm', rfl⟩ := hm b hb
    rw [dec_enc hl, dec_enc hm']
    rw [iN_cons hl, iN_cons hm'] at hab
    intro z
    exact List.not_lt.mpr hab (iN_lt.mpr z)
section
variable {K : PySem.W.Frag} {σ : L2.St} {H H' : Hp} {ta tb te tl : TE} {α β : Type} {R : Rl α}
theorem tup1_of {H : Hp} : ∀ {vs : List V} {L : List (List Nat)}, Paired (TN H) vs L → (∀ l ∈ L, l ≠ []) → Paired (TupI1 K H) vs (L.map encB)
  | _, _, .nil, _ => .nil
  | _, _, .cons r tl, h => by
    obtain ⟨a, rfl, ha⟩ := tn_v r
    refine .cons ⟨a, rfl, ?_⟩ (tup1_of tl fun l hl => h l (List.mem_cons_of_mem _ hl))
    rw [iN_cons (h _ List.mem_cons_self), iN_v]
    exact ha
theorem of_tup1 {H : Hp} : ∀ {vs : List V} {L : List (List Nat)}, Paired (TupI1 K H) vs (L.map encB) → (∀ l ∈ L, l ≠ []) → Paired (TN H) vs L
  | _, [], .nil, _ => .nil
  | _, l :: L, .cons r tl, h => by
    obtain ⟨a, rfl, ha⟩ := r
    refine .cons ?_ (of_tup1 tl fun l hl => h l (List.mem_cons_of_mem _ hl))
    rw [iN_cons (h _ List.mem_cons_self), iN_v] at ha
    exact tn_of ha
/-- sorted of a list of tuples of numbers; none is empty -/
theorem er_sortTs {L M : List (List Nat)} (h : Er LTN ta σ H L) (hne : ∀ l ∈ L, l ≠ []) (e : ((L.map encB).mergeSort fun p q => decide ((p.1 :: p.2) ≤ (q.1 :: q.2))) = M.map encB) (hp : M.Perm L) : Er LTN (tCB (rSortedTs K) (tCons ta tNil)) σ H M := fun H1 e1 Q q => h H1 e1 _ fun v H2 e2 r => by
  obtain ⟨a, vs, rfl, ha, hr⟩ := r
  refine ⟨a, vs, L.map encB, rfl, .inl (.inl ha), tup1_of hr hne, fun ys p hy np => q (.ref p) _ (e2.trans (Ex.new np)) ⟨p, ys, rfl, upd_same, Paired.mono (fun u y r => mTN.m _ _ _ _ (Ex.new np) r) ?_⟩⟩
  rw [e] at hy
  exact of_tup1 hy fun l hl => hne l (hp.mem_iff.mp hl)
/-- a list of numbers not in a list of such -/
theorem dp_lln {v : V} {L : List (List Nat)} (h : LstR LN H v L) : Dp K H v (.list (L.map fun l => .list (dN l))) := by
  obtain ⟨a, vs, rfl, ha, hp⟩ := h
  exact .lst (.inl (.inl ha)) (dp_each (R := LN) (fun v x r => dp_ln r) hp)
theorem ev_notin {l : List Nat} {M : List (List Nat)} (h : Er LN ta σ H l) (k : Er (LstR LN) tb σ H M) : Ev (tOp (rNotInD K) ta tb) σ H (.bl (!decide (l ∈ M))) := fun H1 e Q q => h H1 e _ fun v H2 e2 r => k H2 (e.trans e2) _ fun w H3 e3 s => by
  refine ⟨_, _, dp_ln (mLN _ _ _ _ e3 r), dp_lln s, sh_ln l, sh_lln M, ?_⟩
  have ei : ((M.map fun l => PyData.list (dN l)).any fun z => PyData.eqv z (.list (dN l))) = decide (l ∈ M) := by
    rw [Bool.eq_iff_iff, decide_eq_true_eq, List.any_map, List.any_eq_true]
    constructor
    · rintro ⟨m, hm, em⟩
      have em : PyData.eqv (.list (dN m)) (.list (dN l)) = true := em
      rw [eqv_ln, decide_eq_true_eq] at em
      exact em ▸ hm
    · intro hm
      refine ⟨l, hm, ?_⟩
      show PyData.eqv (.list (dN l)) (.list (dN l)) = true
      rw [eqv_ln, decide_eq_true_eq]
  rw [ei]
  exact q H3 (e2.trans e3)
theorem hasE_d (a b : Nat) (l : List Nat) : (decide (a ∈ l) || decide (b ∈ l)) = hasE a b l := by
  rw [Bool.eq_iff_iff, hasE_iff, Bool.or_eq_true, decide_eq_true_eq, decide_eq_true_eq]
end
section
variable {P : Program} {w : World} {K : PySem.W.Frag} {mg : Str → Option Value} {base : Heap}
theorem old_lots {H : Hp} {v : V} {L : List (List Nat)} (h : LstR LN H v L) : LstR (OldR H LN) H v L := by
  obtain ⟨a, vs, rfl, ha, hp⟩ := h
  refine ⟨a, vs, rfl, ha, Paired.mono (fun u y r => ?_) hp⟩
  obtain ⟨b, rfl, hb⟩ := ln_v r
  exact ⟨r, b, _, rfl, hb⟩
theorem mLL : Mon (LstR LN) := mon_lst mLN
theorem ok_lties {f : Addr} {fd : FuncData} (F : Fun K "_law_ties" "_law_ties" s_Lties f fd) (T : Bl mg) : FnOk P w K mg base CX0 1 f fd ["_law_table_here"] spTies := by
  refine F.ok sc_Lties spTies_len (fun cdv A outer st H vs Q E hr h => ?_)
  obtain ⟨v, n, p, q, s, t, rfl, hv, tab, h1, h20, k⟩ := h
  have nd := sc_Lties.nd
  have hu64 := hr.units
  have hu65 : (A.deeper (PyProof.Rows.envOfC "_law_ties" (defScope s_Lties) st.heap.objs.size f cdv)).units + 65 < cLine := by have := hr.un; omega
  refine ⟨_, pss_cons (ps_setLc (i := 1) (own := [("_law_number", 5)]) (g := gName 5) (tt := tYes) rfl nd rfl rfl (by rfl) (pi_range1 (by rfl) T.b_range (pa_cons (pe_callB (cLen K) (by rfl) T.b_len PySem.boot_len (pa_cons (pv 0) pa_nil)) pa_nil)) (blkOk_by (N := N_Lties) (sc := defScope s_Lties) (by decide +kernel)) (fun _ _ _ _ _ => pg_name (i := 5) nd rfl (Or.inl rfl)) (fun _ _ _ _ _ => pts_nil)
      (fun _ _ _ _ _ => pe_lst (pa_cons (pv 5) pa_nil)))
    (pss_cons (ps_for PassesOwn.never rfl (pi_range1 (by rfl) T.b_range (pa_cons (pe_callB (cLen K) (by rfl) T.b_len PySem.boot_len (pa_cons (pv 0) pa_nil)) pa_nil)) (pg_name (i := 2) nd rfl (Or.inr rfl))
      (pss_one (ps_for PassesOwn.never rfl (pi_range1 (by rfl) T.b_range (pa_cons (pe_callB (cLen K) (by rfl) T.b_len PySem.boot_len (pa_cons (pv 0) pa_nil)) pa_nil)) (pg_name (i := 3) nd rfl (Or.inr rfl))
        (pss_one (ps_if (pt_cmpR op_eq (pe_ix (iT K) (pe_ix (iT K) (pv 0) (pv 2) (fun _ _ => rfl)) pe_int (fun _ _ => rfl)) (pe_ix (iT K) (pe_ix (iT K) (pv 0) (pv 3) (fun _ _ => rfl)) pe_int (fun _ _ => rfl)) (nomark _))
          (pss_cons (ps_set (i := 4) nd rfl (Or.inr rfl) (pe_lc (own := [("_law_lot", 6)]) (g := gName 6) rfl nd (piL K (pv 1)) (blkOk_by (N := N_Lties) (sc := defScope s_Lties) (by decide +kernel)) (fun _ _ _ _ _ => pg_name (i := 6) nd rfl (Or.inl rfl))
              (fun _ _ _ _ _ => pts_one (PW.pt (pw_or (pt_cmpR (oIn K) (pv 2) (pv 6) (by rfl)) (pw_or1 (pt_cmpR (oIn K) (pv 3) (pv 6) (by rfl)))))) (fun _ _ _ _ _ => pv 6)))
          (pss_one (ps_set (i := 1) nd rfl (Or.inl rfl) (pe_op op_cat (pe_lc (own := [("_law_lot", 6)]) (g := gName 6) rfl nd (piL K (pv 1)) (blkOk_by (N := N_Lties) (sc := defScope s_Lties) (by decide +kernel)) (fun _ _ _ _ _ => pg_name (i := 6) nd rfl (Or.inl rfl))
              (fun _ _ _ _ _ => pts_one (pt_cmpR (oNotInD K hu65) (pv 6) (pv 4) (by rfl))) (fun _ _ _ _ _ => pv 6))
            (pe_lst (pa_cons (pe_callB (cSortL K) (by rfl) T.b_sorted (by decide +kernel) (pa_cons (pe_callB (cSum K) (by rfl) T.b_sum (by decide +kernel) (pa_cons (pv 4) (pa_cons (pe_lst pa_nil) pa_nil))) pa_nil)) pa_nil))))))
          pss_nil)))))
    (pss_one (ps_ret (pe_callB (cSortTs K hu64) (by rfl) T.b_sorted (by decide +kernel) (pa_cons (pe_lc (own := [("_law_lot", 6)]) (g := gName 6) (tt := tYes) rfl nd (piL K (pv 1)) (blkOk_by (N := N_Lties) (sc := defScope s_Lties) (by decide +kernel)) (fun _ _ _ _ _ => pg_name (i := 6) nd rfl (Or.inl rfl)) (fun _ _ _ _ _ => pts_nil)
      (fun _ _ _ _ _ => pe_callTy (cTup K) (by rfl) T.b_tuple (by decide +kernel) (pa_cons (pv 6) pa_nil))) pa_nil))))), ?_⟩
  have hv0 : ∀ {σ : L2.St} {H1 : Hp}, σ[0]? = some (some v) → Ex H H1 → Er TTN (tVar 0) σ H1 (tabD n p q) := fun h e => er_var mTTN.m h (mTTN.m _ _ _ _ e hv)
  have hlenE : ∀ {σ : L2.St} {H1 : Hp}, σ[0]? = some (some v) → Ex H H1 → Ev (tCB (rLenS K) (tCons (tVar 0) tNil)) σ H1 (.int (n : Int)) := fun h e => ev_is (ev_lenT (hv0 h e)) (by rw [len_tab])
  -- lots
  refine q_asgE (σ := [some v, none, none, none, none, none, none]) (er_lcRX (n := n) (S := LN) (fun i => [i]) mLN (sts_lst monT_nat) (hlenE rfl (Ex.refl H)) (by omega) (fun _ => rfl) (fun i H1 e1 hi => en_lst monT_nat.m (Rg.ea_cons monT_nat.m (er_nat (ev_v rfl)) Rg.ea_nil) (by show 1 ≤ 100000; decide))) fun lv H1 e1 r1 => ?_
  have hin : ∀ a b, a < n → b < n → p a = q b → s a = b := fun a b ha hb e => (tab.bound ha hb e).symm
  refine q_forR1 (σ := [some v, some lv, none, none, none, none, none]) (n := (n : Int)) (a1 (hlenE rfl e1)) (by omega) (fun a σ' H' => ∃ lv L y2 y3 y4, σ' = [some v, some lv, y2, y3, y4, none, none] ∧ Ex H H' ∧ LstR LN H' lv L ∧ Lots n s (fun x => x < a) L)
    (fun H2 e2 => ⟨lv, _, none, none, none, rfl, e1.trans e2, mLL _ _ _ _ e2 r1, lots_start.mono fun x _ z => absurd z (Nat.not_lt_zero x)⟩) (fun a σ' H' ha hp => ?_) (fun σ' H' hp => ?_)
  · obtain ⟨lv, L, y2, y3, y4, rfl, e, r, lots⟩ := hp
    have ha' : a < n := Int.ofNat_lt.mp ha
    refine s_forR1 (σ := [some v, some lv, some (.int (a : Int)), y3, y4, none, none]) (n := (n : Int)) (a1 (hlenE rfl e)) (by omega) (fun b σ' H' => ∃ lv L y3 y4, σ' = [some v, some lv, some (.int (a : Int)), y3, y4, none, none] ∧ Ex H H' ∧ LstR LN H' lv L ∧ Lots n s (fun x => x < a ∨ (x = a ∧ s a < b)) L)
      (fun H2 e2 => ⟨lv, L, y3, y4, rfl, e.trans e2, mLL _ _ _ _ e2 r, lots.mono fun x _ z => z.elim id fun z => absurd z.2 (Nat.not_lt_zero _)⟩) (fun b σ' H' hb hp => ?_) (fun σ' H' hp => ?_)
    · obtain ⟨lv, L, y3, y4, rfl, e, r, lots⟩ := hp
      have hb' : b < n := Int.ofNat_lt.mp hb
      obtain ⟨z1, z2, z3⟩ := lots_small lots
      refine s_when (σ := [some v, some lv, some (.int (a : Int)), some (.int (b : Int)), y4, none, none]) (b := decide (p a = q b)) (et_test (ev_eqN (a := p a) (b := q b) (ev_nat (er_ixT (K := K) (i := 0) monT_nat.m (er_ixT (K := K) (i := a) mTN.m (hv0 rfl e) (ev_v rfl) (get_tab ha')) ev_c rfl)) (ev_nat (er_ixT (K := K) (i := 1) monT_nat.m (er_ixT (K := K) (i := b) mTN.m (hv0 rfl e) (ev_v rfl) (get_tab hb')) ev_c rfl)))) (fun hd H2 e2 => ?_) (fun hd H2 e2 => ?_)
      · have hpq : p a = q b := of_decide_eq_true hd
        have r2 := mLL _ _ _ _ e2 r
        have eo := old_lots r2
        -- both
        refine q_asgE (σ := [some v, some lv, some (.int (a : Int)), some (.int (b : Int)), y4, none, none]) (R := LstR LN) (x := L.filter (hasE a b)) (Er.is (er_lcLX (K := K) (R := OldR H2 LN) (S := LN) (hasE a b) (fun l => l) (mon_old mLN) mLN (sts_lst monT_nat) (er_var (mon_lst (mon_old mLN)) rfl eo) (by omega) (fun _ => rfl)
          (fun l z H3 e3 hl rr => et_is (et_or (et_test (ev_inLN (ev_v rfl) (er_var mLN rfl rr.1))) fun _ => et_test (ev_inLN (ev_v rfl) (er_var mLN rfl rr.1))) (hasE_d a b l))
          (fun l z H3 e3 hl rr _ => fun H4 e4 Q q => ⟨z, rfl, q z H4 (Ex.refl H4) (mLN _ _ _ _ e4 rr.1) ⟨_, rr.2.choose_spec.choose_spec.1, .inr ⟨_, rr.2.choose_spec.choose_spec.2⟩⟩⟩)) (List.map_id' _)) fun bv H3 e3 r3 => ?_
        have r23 := mLL _ _ _ _ e3 r2
        have eo3 := old_lots r23
        have hbl := flat_filter_le (f := hasE a b) L
        have hne : L.filter (hasE a b) ≠ [] := by
          obtain ⟨l, hl, hal⟩ := lots.cover a ha'
          exact List.ne_nil_of_mem (List.mem_filter.mpr ⟨hl, hasE_iff.mpr (.inl hal)⟩)
        refine s_asgE (σ := [some v, some lv, some (.int (a : Int)), some (.int (b : Int)), some bv, none, none]) (R := LstR LN) (x := L.filter (fun l => !hasE a b l) ++ [srt (L.filter (hasE a b)).flatten]) (er_catM mLN (Er.is (er_lcLX (K := K) (R := OldR H3 LN) (S := LN) (fun l => !decide (l ∈ L.filter (hasE a b))) (fun l => l) (mon_old mLN) mLN (sts_lst monT_nat) (er_var (mon_lst (mon_old mLN)) rfl eo3) (by omega) (fun _ => rfl)
          (fun l z H4 e4 hl rr => et_test (ev_notin (K := K) (er_var mLN rfl rr.1) (er_var mLL rfl (mLL _ _ _ _ e4 r3))))
          (fun l z H4 e4 hl rr _ => fun H5 e5 Q q => ⟨z, rfl, q z H5 (Ex.refl H5) (mLN _ _ _ _ e5 rr.1) ⟨_, rr.2.choose_spec.choose_spec.1, .inr ⟨_, rr.2.choose_spec.choose_spec.2⟩⟩⟩)) ?_)
          (er_lstM mLN (Rg.ea_cons mLN (er_sortL (K := K) (er_sum (K := K) monT_nat.m (er_var mLL rfl r3) hne (by omega))) Rg.ea_nil) (by show 1 ≤ 100000; decide)) ?_) fun lv2 H4 e4 r4 => ?_
        · rw [List.map_id']
          refine List.filter_congr fun l hl => ?_
          rw [Bool.eq_iff_iff, Bool.not_eq_true', Bool.not_eq_true', decide_eq_false_iff_not, List.mem_filter]
          constructor
          · intro z
            cases hh : hasE a b l with
            | true => exact absurd ⟨hl, hh⟩ z
            | false => rfl
          · intro z h
            rw [z] at h
            exact absurd h.2 Bool.false_ne_true
        · have := List.length_filter_le (fun l => !hasE a b l) L
          show (L.filter fun l => !hasE a b l).length + 1 ≤ 100000
          omega
        · refine ⟨lv2, _, _, _, rfl, ((e.trans e2).trans e3).trans e4, r4, lots.join tab ha' hb' hpq (fun x hx z => ?_) (srt_perm _) (srt_asc _)⟩
          rcases z with z | z
          · exact .inl (.inl z)
          · exact .inr z.1
      · have hpq : ¬ p a = q b := of_decide_eq_false hd
        refine ⟨lv, L, _, _, rfl, e.trans e2, mLL _ _ _ _ e2 r, lots.mono fun x hx z => ?_⟩
        rcases z with z | ⟨z1, z2⟩
        · exact .inl z
        · refine .inr ⟨z1, ?_⟩
          have hs : s a ≠ b := fun zz => hpq (by rw [← zz, tab.sf a ha'])
          omega
    · obtain ⟨lv, L, y3, y4, rfl, e, r, lots⟩ := hp
      rw [Int.toNat_natCast] at lots
      refine ⟨lv, L, _, _, _, rfl, e, r, lots.mono fun x hx z => ?_⟩
      by_cases hxa : x = a
      · exact .inr ⟨hxa, tab.sb a ha'⟩
      · exact .inl (by omega)
  · obtain ⟨lv, L, y2, y3, y4, rfl, e, r, lots⟩ := hp
    rw [Int.toNat_natCast] at lots
    obtain ⟨z1, z2, z3⟩ := lots_small lots
    obtain ⟨M, hM, hperm, hsort⟩ := sort_enc lots.ne
    refine er_sortTs (K := K) (L := L) (M := M) (Er.is (er_lcL1 (K := K) (σ := [some v, some lv, y2, y3, y4, none, none]) (R := LN) (S := TN) (fun l => l) mLN mTN (er_var mLL rfl r) (by omega) (fun _ => rfl) (fun l z H2 e2 hl rr => er_tupOf (K := K) monT_nat.m (er_var mLN rfl rr))) (List.map_id' _)) lots.ne hM hperm H' (Ex.refl H') _ fun v' H5 e5 r5 => k v' H5 M (e.trans e5) (lots.ties (fun x hx => hx) hperm hsort) r5
end
end Rg
/-! _law_right. -/
namespace Rg
open PySem L2 Evl RgR RgM
/-! ### plain -/
theorem filter_nil {L : List (List Nat)} {c : List Nat} : L.filter (fun l => decide (1 < dc (l.map fun x => c.getD x 0))) = [] ↔ Even L c := by
  rw [List.filter_eq_nil_iff]
  constructor
  · intro h l hl x hx y hy
    have h1 := h l hl
    rw [decide_eq_true_eq] at h1
    exact dc_one.mp h1 _ (List.mem_map.mpr ⟨x, hx, rfl⟩) _ (List.mem_map.mpr ⟨y, hy, rfl⟩)
  · intro h l hl
    rw [decide_eq_true_eq]
    refine dc_one.mpr fun u hu v hv => ?_
    obtain ⟨x, hx, rfl⟩ := List.mem_map.mp hu
    obtain ⟨y, hy, rfl⟩ := List.mem_map.mp hv
    exact h l hl x hx y hy
theorem take_cnt {xs : List (List Nat)} {i : Nat} {x : List Nat} {f : List Nat → Bool} (h : xs[i]? = some x) : ((xs.take (i + 1)).filter f).length = ((xs.take i).filter f).length + (if f x = true then 1 else 0) := by
  rw [List.take_add_one, h, List.filter_append, List.length_append]
  show _ + ([x].filter f).length = _
  cases hf : f x with
  | true => rw [List.filter_cons, if_pos hf, if_pos rfl] <;> rfl
  | false => rw [List.filter_cons, if_neg (by rw [hf]; exact Bool.false_ne_true), if_neg Bool.false_ne_true] <;> rfl
section
variable {P : Program} {w : World} {K : PySem.W.Frag} {mg : Str → Option Value} {base : Heap}
section
variable {σ : L2.St} {H : Hp} {ta tb te : TE} {v : V} {n : Nat} {p q s t : Nat → Nat} {L : List (List Nat)} {α β : Type} {R : Rl α} {S : Rl β} {D : Ends} {tz : TS}
theorem er_tiesE (h : Er TTN te σ H (tabD n p q)) (T : Tab2 n p q s t) (h1 : 1 ≤ n) (h20 : n ≤ 20) (I : IsTies n s L) : Er LTN (tCall spTies [] E0 (tCons te tNil)) σ H L := fun H1 e Q k => h H1 e _ fun v H2 e2 r =>
  ⟨v, n, p, q, s, t, rfl, r, T, h1, h20, fun v' H3 M e3 J r => k v' H3 (e2.trans e3) (J.unique I ▸ r)⟩
theorem q_par2 {i j : Nat} {x : α} {y : β} (mR : Mon R) (h : Er R ta σ H x) (h2 : Er S tb σ H y) (k : ∀ v w H1, Ex H H1 → R H1 v x → S H1 w y → tz D ((σ.set i (some v)).set j (some w)) H1) : tSeq (tPar i j (tCons ta (tCons tb tNil))) tz D σ H :=
  h H (Ex.refl H) _ fun v H1 e1 r => h2 H1 e1 _ fun w H2 e2 r2 => ⟨v, w, rfl, k v w H2 (e1.trans e2) (mR _ _ _ _ e2 r) r2⟩
theorem ev_notTrue (h : Ev te σ H (.bl true)) : Ev (tOp rNotB te (tC (.bl true))) σ H (.bl false) := ev_op h ev_c fun H1 e Q q => ⟨true, true, rfl, rfl, q H1 (Ex.refl H1)⟩
theorem ev_neB {b : Bool} (h : Ev ta σ H (.bl b)) (k : Ev tb σ H (.bl b)) : Ev (tOp rNe ta tb) σ H (.bl false) := ev_is (ev_op h k (rv_ne rfl)) (by rw [decide_eq_true rfl]; rfl)
theorem ev_count (h : Ev ta σ H v) (hv : TTN H v (tabD n p q)) (T : Tab2 n p q s t) (h1 : 1 ≤ n) (h20 : n ≤ 20) (I : IsTies n s L) : Ev (tCall spCount [] E0 (tCons ta (tCons (tTup tNil) tNil))) σ H (.int ((2 ^ L.length : Nat) : Int)) := fun H1 e Q k => h H1 e _ fun H2 e2 =>
  ⟨by show 0 ≤ sizeLine; decide, fun b nb => ⟨v, b, n, p, q, s, t, L, rfl, mTTN.m _ _ _ _ ((e.trans e2).trans (Ex.new nb)) hv, T, h1, h20, upd_same, I, fun H3 e3 => k H3 ((e2.trans (Ex.new nb)).trans e3)⟩⟩
end
def MetR : Rl (List Nat) := fun _ v ns => Met ns v
theorem met_is {ns : List Nat} {v : V} (m : Met ns v) : decide (v = .non) = decide ns.Nodup := by
  rcases m with ⟨rfl, h⟩ | ⟨⟨a, rfl⟩, h⟩
  · rw [decide_eq_true h, decide_eq_true rfl]
  · rw [decide_eq_false h]
    exact decide_eq_false fun z => by cases z
def spRight : Sp := fun vs H Q _ => ∃ (v : V) (n : Nat) (p q s t : Nat → Nat), vs = [v] ∧ TTN H v (tabD n p q) ∧ Tab2 n p q s t ∧ 1 ≤ n ∧ n ≤ 6 ∧ ∀ H', Ex H H' → Q (.bl true) H'
theorem ok_right {f : Addr} {fd : FuncData} (F : Fun K "_law_right" "_law_right" s_Lright f fd) (T : Bl mg) (C1 : Cal P w K mg base 1 "_law_ties" ["_law_table_here"] spTies) (C2 : Cal P w K mg base 1 "_law_all" ["_law_many", "_law_ways"] spAll)
    (C3 : Cal P w K mg base 3 "is_table" ["value"] (spTabV (.bl true))) (C4 : Cal P w K mg base 5 "ties_of" ["two"] spTies) (C5 : Cal P w K mg base 4 "two_that_meet" ["table", "choice"] (spTC meets)) (C6 : Cal P w K mg base 1 "_law_is_one" ["_law_nexts_here"] spOne)
    (C7 : Cal P w K mg base 1 "_law_nexts" ["_law_table_here", "_law_choice"] (spTC (gives nxL))) (C8 : Cal P w K mg base 5 "count_two" ["two", "told"] spCount) : FnOk P w K mg base CX0 6 f fd ["_law_table_here"] spRight := by
  refine F.ok sc_Lright (fun vs H Q E h => ?_) (fun cdv A outer st H vs Q E hr h => ?_)
  · obtain ⟨v, n, p, q, s, t, rfl, _⟩ := h
    rfl
  obtain ⟨v, n, p, q, s, t, rfl, hv, tab, h1, h6, k⟩ := h
  have nd := sc_Lright.nd
  have hr1 : Room 1 _ := hr.mono (by decide)
  have hr3 : Room 3 _ := hr.mono (by decide)
  have hr4 : Room 4 _ := hr.mono (by decide)
  have hu64 := hr.units
  refine ⟨_, pss_cons (ps_par (i := 1) (j := 2) rfl nd rfl rfl (by decide) rfl rfl (pa_cons (pe_cal C1 hr1 (by rfl) (pa_cons (pv 0) pa_nil)) (pa_cons (pe_cal C2 hr1 (by rfl) (pa_cons (pe_callB (cLen K) (by rfl) T.b_len PySem.boot_len (pa_cons (pv 0) pa_nil)) (pa_cons pe_int pa_nil))) pa_nil)) (by rfl))
    (pss_cons (ps_if (PW.pt (pw_or (pt_cmpR op_notBl (pe_cal C3 hr3 (by rfl) (pa_cons (pv 0) pa_nil)) pe_bl (nomark _)) (pw_or1 (pt_cmpR (oNeD K hu64) (pe_cal C4 hr (by rfl) (pa_cons (pv 0) pa_nil)) (pv 1) (nomark _))))) (pss_one (ps_ret pe_bl)) pss_nil)
    (pss_cons (ps_set (i := 3) nd rfl (Or.inl rfl) pe_int)
    (pss_cons (ps_for PassesOwn.never rfl (piL K (pv 2)) (pg_name (i := 4) nd rfl (Or.inr rfl))
      (pss_cons (ps_set (i := 5) nd rfl (Or.inl rfl) (pe_cmpR (oEqD K hu64) (pe_lc (own := [("_law_tie", 7)]) (g := gName 7) rfl nd (piL K (pv 1)) (blkOk_by (N := N_Lright) (sc := defScope s_Lright) (by decide +kernel)) (fun _ _ _ _ _ => pg_name (i := 7) nd rfl (Or.inl rfl))
          (fun _ _ _ _ _ => pts_one (pt_cmpR op_gt (pe_callB (cLenSet w) (by rfl) T.b_len PySem.boot_len (pa_cons (pe_callTy (cSet K w) (by rfl) T.b_set PyProof.Rows.boot_set (pa_cons
            (pe_lc (own := [("_law_number", 8)]) (g := gName 8) (tt := tYes) rfl nd (piT K (pv 7)) (blk_in (N := N_Lright) (sc0 := defScope s_Lright) rfl (by decide +kernel)) (fun _ _ _ _ _ => pg_name (i := 8) nd rfl (Or.inl rfl)) (fun _ _ _ _ _ => pts_nil)
              (fun _ _ _ _ _ => pe_ix (iT K) (pv 4) (pv 8) (fun _ _ => rfl))) pa_nil)) pa_nil)) pe_int (nomark _)))
          (fun _ _ _ _ _ => pv 7)) (pe_lst pa_nil) (nomark _)))
      (pss_cons (ps_set (i := 6) nd rfl (Or.inl rfl) (pe_cal C5 hr4 (by rfl) (pa_cons (pv 0) (pa_cons (pv 4) pa_nil))))
      (pss_cons (ps_if (PW.pt (pw_or (pt_cmpR op_ne (pe_cmpR op_isNo (pv 6) pe_non (nomark _)) (pv 5) (nomark _)) (pw_or1 (pt_cmpR op_ne (pe_cal C6 hr1 (by rfl) (pa_cons (pe_cal C7 hr1 (by rfl) (pa_cons (pv 0) (pa_cons (pv 4) pa_nil))) pa_nil)) (pv 5) (nomark _))))) (pss_one (ps_ret pe_bl)) pss_nil)
      (pss_one (ps_set (i := 3) nd rfl (Or.inl rfl) (pe_op op_add (pv 3) (pe_ifExp (pt_val (pv 5)) pe_int pe_int))))))))
    (pss_one (ps_ret (pe_cmpR op_eq (pe_cal C8 hr (by rfl) (pa_cons (pv 0) (pa_cons (pe_tup pa_nil) pa_nil))) (pv 3) (nomark _))))))), ?_⟩
  obtain ⟨L, I⟩ := ties_ex tab
  obtain ⟨z1, z2, z3⟩ := ties_small I
  have hv0 : ∀ {H1 : Hp}, Ex H H1 → TTN H1 v (tabD n p q) := fun e => mTTN.m _ _ _ _ e hv
  -- ties, some
  refine q_par2 (σ := [some v, none, none, none, none, none, none, none, none]) (R := LTN) (S := LTN) (x := L) (y := allC n) mLTN (er_ties (ev_v rfl) hv tab h1 (by omega) I)
    (er_call (a2 (ev_is (ev_lenT (er_var mTTN.m rfl hv)) (by rw [len_tab])) ev_c) fun H1 e Q k => ⟨n, rfl, h6, fun v H2 e2 r => k v H2 e2 r⟩) fun tv sv H1 e1 rt rs => ?_
  -- is_table, ties_of
  refine q_when (σ := [some v, some tv, some sv, none, none, none, none, none, none]) (b := false) (et_or (et_test (ev_notTrue (ev_tabV (ev_v rfl) (hv0 e1) tab h1 (by omega)))) fun _ => et_test (ev_is (ev_neLTN (K := K) (er_ties (ev_v rfl) (hv0 e1) tab h1 (by omega) I) (er_var mLTN rfl rt)) (by rw [decide_eq_true rfl]; rfl))) (fun z => absurd z Bool.noConfusion) fun _ H2 e2 => ?_
  refine q_asg (σ := [some v, some tv, some sv, none, none, none, none, none, none]) (v := .int ((0 : Nat) : Int)) ev_c fun H3 e3 => ?_
  have e03 := (e1.trans e2).trans e3
  have rt3 := mLTN _ _ _ _ (e2.trans e3) rt
  have rs3 := mLTN _ _ _ _ (e2.trans e3) rs
  obtain ⟨sa, us, rfl, hsa, hps⟩ := rs3
  refine q_forL (K := K) (σ := [some v, some tv, some (.ref sa), some (.int ((0 : Nat) : Int)), none, none, none, none, none]) (ev_v rfl) (.inl (.inl hsa)) (fun i σ' H' => ∃ y4 y5 y6, σ' = [some v, some tv, some (.ref sa), some (.int (((((allC n).take i).filter fun c => decide (nxL n p q c).Nodup).length : Nat) : Int)), y4, y5, y6, none, none] ∧ Ex H3 H')
    (fun H4 e4 => ⟨none, none, none, rfl, e4⟩) (fun i σ' H' _ hp => by
      obtain ⟨_, _, _, _, e⟩ := hp
      exact .inl (.inl (e sa _ hsa))) (fun i x σ' H' hi hp => ?_) (fun σ' H' hp => ?_)
  · obtain ⟨y4, y5, y6, rfl, e⟩ := hp
    obtain ⟨c, hc, rc⟩ := pr_getL hps hi
    obtain ⟨hcl, hc2⟩ := mem_allC.mp (List.mem_of_getElem? hc)
    have rc' := mTN.m _ _ _ _ e rc
    have eH := e03.trans e
    have hev : decide (L.filter (fun l => decide (1 < dc (l.map fun x => c.getD x 0))) = []) = decide (nxL n p q c).Nodup := by
      rw [Bool.eq_iff_iff, decide_eq_true_eq, decide_eq_true_eq, filter_nil]
      exact even_iff tab I fun x => getD_lt hc2 x
    -- is_so
    refine q_asg (σ := [some v, some tv, some (.ref sa), some (.int (((((allC n).take i).filter fun c => decide (nxL n p q c).Nodup).length : Nat) : Int)), some x, y5, y6, none, none]) (v := .bl (decide (nxL n p q c).Nodup)) (ev_is (ev_eqLTN (K := K) (L := L.filter (fun l => decide (1 < dc (l.map fun x => c.getD x 0)))) (M := [])
      (Er.is (er_lcL (K := K) (R := TN) (S := TN) (fun l => decide (1 < dc (l.map fun x => c.getD x 0))) (fun l => l) mTN.m mTN (er_var mLTN rfl (mLTN _ _ _ _ e rt3)) (by omega) (fun _ => rfl)
        (fun l z H4 e4 hl rl => et_test (ev_is (ev_op (ev_lenSetL (w := w) (er_lcT1 (K := K) (R := NatR) (S := NatR) (fun x => c.getD x 0) monT_nat.m monT_nat (er_var mTN.m rfl rl) (by have := z3 l hl; omega) (fun _ => rfl)
          (fun m u H5 e5 hm rm => by
            cases rm
            exact er_ixT (K := K) (i := m) monT_nat.m (er_var mTN.m rfl (mTN.m _ _ _ _ (e4.trans e5) rc')) (ev_v rfl) (getD_some (by have := I.sub l hl m hm; omega)))) (by rw [List.length_map]; have := z3 l hl; omega)) ev_c rv_I0) (by
          rw [V.bl.injEq, Bool.eq_iff_iff, decide_eq_true_eq, decide_eq_true_eq]
          exact Int.ofNat_lt (n := 1))))
        (fun l z H4 e4 hl rl _ => er_var mTN.m rfl rl)) (List.map_id' _)) (er_lst mTN Rg.ea_nil (by decide))) (by rw [hev])) fun H4 e4 => ?_
    have rc4 := mTN.m _ _ _ _ e4 rc'
    -- met
    refine q_asgE (σ := [some v, some tv, some (.ref sa), some (.int (((((allC n).take i).filter fun c => decide (nxL n p q c).Nodup).length : Nat) : Int)), some x, some (.bl (decide (nxL n p q c).Nodup)), y6, none, none]) (R := MetR) (x := nxL n p q c) (er_call (a2 (ev_v rfl) (ev_v rfl)) fun H5 e5 Q k => ⟨v, x, n, p, q, s, t, c, rfl, hv0 ((eH.trans e4).trans e5), tab, h1, by omega, mTN.m _ _ _ _ e5 rc4, hcl, hc2, fun v' H6 e6 m => k v' H6 e6 m⟩) fun mv H5 e5 rm => ?_
    have e45 := e4.trans e5
    have rc5 := mTN.m _ _ _ _ e5 rc4
    have er1 : Er TN (tCall (spTC (gives nxL)) [] E0 (tCons (tVar 0) (tCons (tVar 4) tNil))) [some v, some tv, some (.ref sa), some (.int (((((allC n).take i).filter fun c => decide (nxL n p q c).Nodup).length : Nat) : Int)), some x, some (.bl (decide (nxL n p q c).Nodup)), some mv, none, none] H5 (nxL n p q c) := er_call (a2 (ev_v rfl) (ev_v rfl)) fun H6 e6 Q k => ⟨v, x, n, p, q, s, t, c, rfl, hv0 ((eH.trans e45).trans e6), tab, h1, by omega, mTN.m _ _ _ _ e6 rc5, hcl, hc2, fun v' H7 e7 m => k v' H7 e7 m⟩
    have ev1 : Ev (tCall spOne [] E0 (tCons (tCall (spTC (gives nxL)) [] E0 (tCons (tVar 0) (tCons (tVar 4) tNil))) tNil)) [some v, some tv, some (.ref sa), some (.int (((((allC n).take i).filter fun c => decide (nxL n p q c).Nodup).length : Nat) : Int)), some x, some (.bl (decide (nxL n p q c).Nodup)), some mv, none, none] H5 (.bl (decide (nxL n p q c).Nodup)) := fun H6 e6 Q k => er1 H6 e6 _ fun u H7 e7 r7 => ⟨u, nxL n p q c, rfl, r7, by rw [len_nxL]; omega, fun H8 e8 => k H8 (e7.trans e8)⟩
    refine q_when (σ := [some v, some tv, some (.ref sa), some (.int (((((allC n).take i).filter fun c => decide (nxL n p q c).Nodup).length : Nat) : Int)), some x, some (.bl (decide (nxL n p q c).Nodup)), some mv, none, none]) (b := false) (et_or (et_test (ev_neB (ev_isNo (ev_v rfl) (met_is rm)) (ev_v rfl))) fun _ => et_test (ev_neB ev1 (ev_v rfl))) (fun z => absurd z Bool.noConfusion) fun _ H6 e6 => ?_
    refine s_asg (σ := [some v, some tv, some (.ref sa), some (.int (((((allC n).take i).filter fun c => decide (nxL n p q c).Nodup).length : Nat) : Int)), some x, some (.bl (decide (nxL n p q c).Nodup)), some mv, none, none]) (v := .int (((((allC n).take (i + 1)).filter fun c => decide (nxL n p q c).Nodup).length : Nat) : Int)) (ev_is (ev_op (ev_v rfl) (ev_if (v := .int (if decide (nxL n p q c).Nodup = true then 1 else 0)) (et_B (ev_v rfl)) (fun hb => ev_is ev_c (by rw [if_pos hb])) (fun hb => ev_is ev_c (by rw [hb]; rfl))) rv_I0) ?_) fun H7 e7 => ⟨_, _, _, rfl, ((e.trans e45).trans e6).trans e7⟩
    rw [take_cnt hc, V.int.injEq]
    cases hb : decide (nxL n p q c).Nodup with
    | true => rfl
    | false => rfl
  · obtain ⟨y4, y5, y6, rfl, e⟩ := hp
    rw [hps.length, List.take_length]
    have hcnt := count_even I (fun c => decide (nxL n p q c).Nodup) fun c hc => by
      rw [decide_eq_true_eq]
      exact (even_iff tab I fun x => getD_lt (mem_allC.mp hc).2 x).symm
    refine ev_is (w := .bl true) (ev_eqN (a := 2 ^ L.length) (b := ((allC n).filter fun c => decide (nxL n p q c).Nodup).length) (ev_count (σ := [some v, some tv, some (.ref sa), some (.int ((((allC n).filter fun c => decide (nxL n p q c).Nodup).length : Nat) : Int)), y4, y5, y6, none, none]) (ev_v rfl) (hv0 (e03.trans e)) tab h1 (by omega) I) (ev_v rfl)) (by rw [hcnt, decide_eq_true rfl]) H' (Ex.refl H') _ fun H8 e8 => k H8 ((e03.trans e).trans e8)
end
end Rg
/-! law. -/
namespace Rg
open PySem L2 Evl RgR RgM
theorem tab2_lit {ns ms ss ts : List Nat} {n : Nat} (h : ns.Perm (List.range n)) (k : ms.Perm (List.range n)) (hs : ∀ x, x < n → ss.getD x 0 < n ∧ ms.getD (ss.getD x 0) 0 = ns.getD x 0) (ht : ∀ x, x < n → ts.getD x 0 < n ∧ ms.getD (ts.getD x 0) 0 = x) :
    Tab2 n (fun i => ns.getD i 0) (fun i => ms.getD i 0) (fun i => ss.getD i 0) (fun i => ts.getD i 0) :=
  ⟨fun x hx => perm_lt h hx, fun x hx => perm_lt k hx, fun x hx => (hs x hx).1, fun x hx => (ht x hx).1, fun x y hx hy e => perm_inj h hx hy e, fun x y hx hy e => perm_inj k hx hy e, fun x hx => (hs x hx).2, fun x hx => (ht x hx).2⟩
theorem ties_lit {n : Nat} {s : Nat → Nat} {L : List (List Nat)} (a : ∀ l ∈ L, l ≠ []) (b : ∀ l ∈ L, l.Pairwise (· < ·)) (c : ∀ l ∈ L, ∀ x ∈ l, x < n) (d : ∀ x, x < n → ∃ l ∈ L, x ∈ l) (e : ∀ l ∈ L, ∀ m ∈ L, ∀ x ∈ l, x ∈ m → l = m) (f : ∀ l ∈ L, ∀ x ∈ l, s x ∈ l)
    (g : ∀ l ∈ L, ∀ x ∈ l, ∀ y ∈ l, ∃ i, i < 6 ∧ it s i x = y) (h : L.Pairwise fun l m => l.headD 0 < m.headD 0) : IsTies n s L :=
  ⟨a, b, c, d, fun l hl m hm x hx => e l hl m hm x hx, f, fun l hl x hx y hy S hS hSx => by
    obtain ⟨i, _, rfl⟩ := g l hl x hx y hy
    have mem : ∀ i, it s i x ∈ l := fun i => by
      induction i with
      | zero => exact hx
      | succ i ih => exact f l hl _ ih
    have all : ∀ i, S (it s i x) := fun i => by
      induction i with
      | zero => exact hSx
      | succ i ih => exact (hS _ (c l hl _ (mem i))).mp ih
    exact all i, h⟩
theorem tb_rung : Tab2 6 (fun i => ([2, 4, 0, 5, 1, 3] : List Nat).getD i 0) (fun i => ([1, 0, 3, 2, 5, 4] : List Nat).getD i 0) (fun i => ([3, 5, 1, 4, 0, 2] : List Nat).getD i 0) (fun i => ([1, 0, 3, 2, 5, 4] : List Nat).getD i 0) := tab2_lit (by decide) (by decide) (by decide) (by decide)
theorem ti_rung : IsTies 6 (fun i => ([3, 5, 1, 4, 0, 2] : List Nat).getD i 0) [[0, 3, 4], [1, 2, 5]] := ties_lit (by decide) (by decide) (by decide) (by decide) (by decide) (by decide) (by decide) (by decide)
theorem er_rung {σ : L2.St} {H : Hp} : Er TTN (tTup (tCons (tTup (tCons (tC (.int 2)) (tCons (tC (.int 1)) tNil))) (tCons (tTup (tCons (tC (.int 4)) (tCons (tC (.int 0)) tNil))) (tCons (tTup (tCons (tC (.int 0)) (tCons (tC (.int 3)) tNil))) (tCons (tTup (tCons (tC (.int 5)) (tCons (tC (.int 2)) tNil))) (tCons (tTup (tCons (tC (.int 1)) (tCons (tC (.int 5)) tNil))) (tCons (tTup (tCons (tC (.int 3)) (tCons (tC (.int 4)) tNil))) tNil))))))) σ H (tabD 6 (fun i => ([2, 4, 0, 5, 1, 3] : List Nat).getD i 0) (fun i => ([1, 0, 3, 2, 5, 4] : List Nat).getD i 0)) := Er.is (x := [[2, 1], [4, 0], [0, 3], [5, 2], [1, 5], [3, 4]]) (er_tup mTN.m (Rg.ea_cons mTN.m (er_tup monT_nat.m (Rg.ea_cons monT_nat.m (er_nat (n := 2) ev_c) (Rg.ea_cons monT_nat.m (er_nat (n := 1) ev_c) Rg.ea_nil)) (by decide)) (Rg.ea_cons mTN.m (er_tup monT_nat.m (Rg.ea_cons monT_nat.m (er_nat (n := 4) ev_c) (Rg.ea_cons monT_nat.m (er_nat (n := 0) ev_c) Rg.ea_nil)) (by decide)) (Rg.ea_cons mTN.m (er_tup monT_nat.m (Rg.ea_cons monT_nat.m (er_nat (n := 0) ev_c) (Rg.ea_cons monT_nat.m (er_nat (n := 3) ev_c) Rg.ea_nil)) (by decide)) (Rg.ea_cons mTN.m (er_tup monT_nat.m (Rg.ea_cons monT_nat.m (er_nat (n := 5) ev_c) (Rg.ea_cons monT_nat.m (er_nat (n := 2) ev_c) Rg.ea_nil)) (by decide)) (Rg.ea_cons mTN.m (er_tup monT_nat.m (Rg.ea_cons monT_nat.m (er_nat (n := 1) ev_c) (Rg.ea_cons monT_nat.m (er_nat (n := 5) ev_c) Rg.ea_nil)) (by decide)) (Rg.ea_cons mTN.m (er_tup monT_nat.m (Rg.ea_cons monT_nat.m (er_nat (n := 3) ev_c) (Rg.ea_cons monT_nat.m (er_nat (n := 4) ev_c) Rg.ea_nil)) (by decide)) Rg.ea_nil)))))) (by decide)) rfl
theorem tb_one : Tab2 1 (fun i => ([0] : List Nat).getD i 0) (fun i => ([0] : List Nat).getD i 0) (fun i => ([0] : List Nat).getD i 0) (fun i => ([0] : List Nat).getD i 0) := tab2_lit (by decide) (by decide) (by decide) (by decide)
theorem ti_one : IsTies 1 (fun i => ([0] : List Nat).getD i 0) [[0]] := ties_lit (by decide) (by decide) (by decide) (by decide) (by decide) (by decide) (by decide) (by decide)
theorem er_one {σ : L2.St} {H : Hp} : Er TTN (tTup (tCons (tTup (tCons (tC (.int 0)) (tCons (tC (.int 0)) tNil))) tNil)) σ H (tabD 1 (fun i => ([0] : List Nat).getD i 0) (fun i => ([0] : List Nat).getD i 0)) := Er.is (x := [[0, 0]]) (er_tup mTN.m (Rg.ea_cons mTN.m (er_tup monT_nat.m (Rg.ea_cons monT_nat.m (er_nat (n := 0) ev_c) (Rg.ea_cons monT_nat.m (er_nat (n := 0) ev_c) Rg.ea_nil)) (by decide)) Rg.ea_nil) (by decide)) rfl
theorem tb_same : Tab2 3 (fun i => ([1, 2, 0] : List Nat).getD i 0) (fun i => ([1, 2, 0] : List Nat).getD i 0) (fun i => ([0, 1, 2] : List Nat).getD i 0) (fun i => ([2, 0, 1] : List Nat).getD i 0) := tab2_lit (by decide) (by decide) (by decide) (by decide)
theorem er_same {σ : L2.St} {H : Hp} : Er TTN (tTup (tCons (tTup (tCons (tC (.int 1)) (tCons (tC (.int 1)) tNil))) (tCons (tTup (tCons (tC (.int 2)) (tCons (tC (.int 2)) tNil))) (tCons (tTup (tCons (tC (.int 0)) (tCons (tC (.int 0)) tNil))) tNil)))) σ H (tabD 3 (fun i => ([1, 2, 0] : List Nat).getD i 0) (fun i => ([1, 2, 0] : List Nat).getD i 0)) := Er.is (x := [[1, 1], [2, 2], [0, 0]]) (er_tup mTN.m (Rg.ea_cons mTN.m (er_tup monT_nat.m (Rg.ea_cons monT_nat.m (er_nat (n := 1) ev_c) (Rg.ea_cons monT_nat.m (er_nat (n := 1) ev_c) Rg.ea_nil)) (by decide)) (Rg.ea_cons mTN.m (er_tup monT_nat.m (Rg.ea_cons monT_nat.m (er_nat (n := 2) ev_c) (Rg.ea_cons monT_nat.m (er_nat (n := 2) ev_c) Rg.ea_nil)) (by decide)) (Rg.ea_cons mTN.m (er_tup monT_nat.m (Rg.ea_cons monT_nat.m (er_nat (n := 0) ev_c) (Rg.ea_cons monT_nat.m (er_nat (n := 0) ev_c) Rg.ea_nil)) (by decide)) Rg.ea_nil))) (by decide)) rfl
theorem tb_ring : Tab2 3 (fun i => ([1, 2, 0] : List Nat).getD i 0) (fun i => ([2, 0, 1] : List Nat).getD i 0) (fun i => ([2, 0, 1] : List Nat).getD i 0) (fun i => ([1, 2, 0] : List Nat).getD i 0) := tab2_lit (by decide) (by decide) (by decide) (by decide)
theorem er_ring {σ : L2.St} {H : Hp} : Er TTN (tTup (tCons (tTup (tCons (tC (.int 1)) (tCons (tC (.int 2)) tNil))) (tCons (tTup (tCons (tC (.int 2)) (tCons (tC (.int 0)) tNil))) (tCons (tTup (tCons (tC (.int 0)) (tCons (tC (.int 1)) tNil))) tNil)))) σ H (tabD 3 (fun i => ([1, 2, 0] : List Nat).getD i 0) (fun i => ([2, 0, 1] : List Nat).getD i 0)) := Er.is (x := [[1, 2], [2, 0], [0, 1]]) (er_tup mTN.m (Rg.ea_cons mTN.m (er_tup monT_nat.m (Rg.ea_cons monT_nat.m (er_nat (n := 1) ev_c) (Rg.ea_cons monT_nat.m (er_nat (n := 2) ev_c) Rg.ea_nil)) (by decide)) (Rg.ea_cons mTN.m (er_tup monT_nat.m (Rg.ea_cons monT_nat.m (er_nat (n := 2) ev_c) (Rg.ea_cons monT_nat.m (er_nat (n := 0) ev_c) Rg.ea_nil)) (by decide)) (Rg.ea_cons mTN.m (er_tup monT_nat.m (Rg.ea_cons monT_nat.m (er_nat (n := 0) ev_c) (Rg.ea_cons monT_nat.m (er_nat (n := 1) ev_c) Rg.ea_nil)) (by decide)) Rg.ea_nil))) (by decide)) rfl
theorem tb_two : Tab2 2 (fun i => ([0, 1] : List Nat).getD i 0) (fun i => ([0, 1] : List Nat).getD i 0) (fun i => ([0, 1] : List Nat).getD i 0) (fun i => ([0, 1] : List Nat).getD i 0) := tab2_lit (by decide) (by decide) (by decide) (by decide)
theorem ti_two : IsTies 2 (fun i => ([0, 1] : List Nat).getD i 0) [[0], [1]] := ties_lit (by decide) (by decide) (by decide) (by decide) (by decide) (by decide) (by decide) (by decide)
theorem er_two {σ : L2.St} {H : Hp} : Er TTN (tTup (tCons (tTup (tCons (tC (.int 0)) (tCons (tC (.int 0)) tNil))) (tCons (tTup (tCons (tC (.int 1)) (tCons (tC (.int 1)) tNil))) tNil))) σ H (tabD 2 (fun i => ([0, 1] : List Nat).getD i 0) (fun i => ([0, 1] : List Nat).getD i 0)) := Er.is (x := [[0, 0], [1, 1]]) (er_tup mTN.m (Rg.ea_cons mTN.m (er_tup monT_nat.m (Rg.ea_cons monT_nat.m (er_nat (n := 0) ev_c) (Rg.ea_cons monT_nat.m (er_nat (n := 0) ev_c) Rg.ea_nil)) (by decide)) (Rg.ea_cons mTN.m (er_tup monT_nat.m (Rg.ea_cons monT_nat.m (er_nat (n := 1) ev_c) (Rg.ea_cons monT_nat.m (er_nat (n := 1) ev_c) Rg.ea_nil)) (by decide)) Rg.ea_nil)) (by decide)) rfl
theorem tb_swap : Tab2 2 (fun i => ([0, 1] : List Nat).getD i 0) (fun i => ([1, 0] : List Nat).getD i 0) (fun i => ([1, 0] : List Nat).getD i 0) (fun i => ([1, 0] : List Nat).getD i 0) := tab2_lit (by decide) (by decide) (by decide) (by decide)
theorem ti_swap : IsTies 2 (fun i => ([1, 0] : List Nat).getD i 0) [[0, 1]] := ties_lit (by decide) (by decide) (by decide) (by decide) (by decide) (by decide) (by decide) (by decide)
theorem er_swap {σ : L2.St} {H : Hp} : Er TTN (tTup (tCons (tTup (tCons (tC (.int 0)) (tCons (tC (.int 1)) tNil))) (tCons (tTup (tCons (tC (.int 1)) (tCons (tC (.int 0)) tNil))) tNil))) σ H (tabD 2 (fun i => ([0, 1] : List Nat).getD i 0) (fun i => ([1, 0] : List Nat).getD i 0)) := Er.is (x := [[0, 1], [1, 0]]) (er_tup mTN.m (Rg.ea_cons mTN.m (er_tup monT_nat.m (Rg.ea_cons monT_nat.m (er_nat (n := 0) ev_c) (Rg.ea_cons monT_nat.m (er_nat (n := 1) ev_c) Rg.ea_nil)) (by decide)) (Rg.ea_cons mTN.m (er_tup monT_nat.m (Rg.ea_cons monT_nat.m (er_nat (n := 1) ev_c) (Rg.ea_cons monT_nat.m (er_nat (n := 0) ev_c) Rg.ea_nil)) (by decide)) Rg.ea_nil)) (by decide)) rfl

section
variable {P : Program} {w : World} {K : PySem.W.Frag} {mg : Str → Option Value} {base : Heap}
section
variable {σ : L2.St} {H : Hp} {ta tb te : TE} {n : Nat} {p q s t : Nat → Nat} {c : Addr}
theorem ev_right (h : Er TTN te σ H (tabD n p q)) (T : Tab2 n p q s t) (h1 : 1 ≤ n) (h6 : n ≤ 6) : Ev (tCall spRight [] E0 (tCons te tNil)) σ H (.bl true) := fun H1 e Q k => h H1 e _ fun v H2 e2 r =>
  ⟨v, n, p, q, s, t, rfl, r, T, h1, h6, fun H3 e3 => k H3 (e2.trans e3)⟩
theorem table_go {i k m : Nat} {Q : VK} (hc : Cup H c) (hi : σ[i]? = some (some (.ref c))) (hk : 1 ≤ k) (hm : 1 ≤ m) (hkm : k + m ≤ 21) (q : ∀ v (n : Nat) (p q s t : Nat → Nat) H', k ≤ n → n < k + m → Cup H' c → TTN H' v (tabD n p q) → Tab2 n p q s t → Q v H') :
    tCall spTable [] E0 (tCons (tVar i) (tCons (tOp (rI0 fun i j => .int (i + j)) (tC (.int (k : Int))) (tCall spRoll [] E0 (tCons (tVar i) (tCons (tC (.int (m : Int))) tNil)))) (tCons (tC (.int 2)) tNil))) σ H Q := by
  refine ⟨.ref c, hi, ?_⟩
  show tCall spRoll [] E0 (tCons (tVar i) (tCons (tC (.int (m : Int))) tNil)) σ H _
  refine roll_go hc (a2 (ev_v hi) ev_c) hm (by omega) fun r H1 hr e1 c1 => ⟨(k : Int), (r : Int), rfl, rfl, c, k + r, ?_, c1, by omega, by omega, fun v p q0 s t H2 e2 c2 rv T => q v (k + r) p q0 s t H2 (by omega) (by omega) c2 rv T⟩
  rw [Int.natCast_add]
  rfl
end
/-- of the script: True -/
def spLaw : Sp := fun vs H Q _ => ∃ (a : Addr) (ns : List Int), vs = [.ref a] ∧ SqL K H a (ns.map V.int) ∧ ns.length ≤ 63 ∧ ∀ H', Q (.bl true) H'
theorem ok_law {f : Addr} {fd : FuncData} (F : Fun K "law" "law" s_law f fd) (T : Bl mg) (C1 : Cal P w K mg base 1 "_law_cup" ["_law_script"] (spCup (K := K))) (C2 : Cal P w K mg base 1 "_law_roll" ["_law_cup_here", "_law_many"] spRoll)
    (C3 : Cal P w K mg base 3 "_law_table" ["_law_cup_here", "_law_many", "_law_ways"] spTable) (C4 : Cal P w K mg base 6 "_law_right" ["_law_table_here"] spRight) (C5 : Cal P w K mg base 5 "ties_of" ["two"] spTies) (C6 : Cal P w K mg base 1 "_law_ties" ["_law_table_here"] spTies) : FnOk P w K mg base CX0 7 f fd ["_law_script"] (spLaw (K := K)) := by
  refine F.ok sc_law (fun vs H Q E h => ?_) (fun cdv A outer st H vs Q E hr h => ?_)
  · obtain ⟨a, ns, rfl, _⟩ := h
    rfl
  obtain ⟨a, ns, rfl, hs, hl, k⟩ := h
  have nd := sc_law.nd
  have hr1 : Room 1 _ := hr.mono (by decide)
  have hr3 : Room 3 _ := hr.mono (by decide)
  have hr5 : Room 5 _ := hr.mono (by decide)
  have hu64 := hr.units
  refine ⟨_, pss_cons (ps_set (i := 1) nd rfl (Or.inl rfl) (pe_cal C1 hr1 (by rfl) (pa_cons (pv 0) pa_nil)))
    (pss_cons (ps_for PassesOwn.never rfl (pi_range1 (by rfl) T.b_range (pa_cons pe_int pa_nil)) (pg_name (i := 2) nd rfl (Or.inl rfl))
      (pss_one (ps_if (pt_not (pt_val (pe_cal C4 hr (by rfl) (pa_cons (pe_cal C3 hr3 (by rfl) (pa_cons (pv 1) (pa_cons (pe_op op_add pe_int (pe_cal C2 hr1 (by rfl) (pa_cons (pv 1) (pa_cons pe_int pa_nil)))) (pa_cons pe_int pa_nil)))) pa_nil)))) (pss_one (ps_ret pe_bl)) pss_nil)))
    (pss_cons (ps_set (i := 3) nd rfl (Or.inl rfl) (pe_cal C3 hr3 (by rfl) (pa_cons (pv 1) (pa_cons (pe_op op_add pe_int (pe_cal C2 hr1 (by rfl) (pa_cons (pv 1) (pa_cons pe_int pa_nil)))) (pa_cons pe_int pa_nil)))))
    (pss_cons (ps_if (pt_cmpR (oNeD K hu64) (pe_cal C5 hr5 (by rfl) (pa_cons (pv 3) pa_nil)) (pe_cal C6 hr1 (by rfl) (pa_cons (pv 3) pa_nil)) (nomark _)) (pss_one (ps_ret pe_bl)) pss_nil)
    (pss_cons (ps_set (i := 4) nd rfl (Or.inl rfl) (pe_tup (pa_cons (pe_tup (pa_cons pe_int (pa_cons pe_int pa_nil))) (pa_cons (pe_tup (pa_cons pe_int (pa_cons pe_int pa_nil))) (pa_cons (pe_tup (pa_cons pe_int (pa_cons pe_int pa_nil))) (pa_cons (pe_tup (pa_cons pe_int (pa_cons pe_int pa_nil))) (pa_cons (pe_tup (pa_cons pe_int (pa_cons pe_int pa_nil))) (pa_cons (pe_tup (pa_cons pe_int (pa_cons pe_int pa_nil))) pa_nil))))))))
    (pss_cons (ps_if (PW.pt (pw_or (pt_cmpR (oNeD K hu64) (pe_cal C5 hr5 (by rfl) (pa_cons (pv 4) pa_nil)) (pe_lst (pa_cons (pe_tup (pa_cons pe_int (pa_cons pe_int (pa_cons pe_int pa_nil)))) (pa_cons (pe_tup (pa_cons pe_int (pa_cons pe_int (pa_cons pe_int pa_nil)))) pa_nil))) (nomark _))
        (pw_or (pt_cmpR (oNeD K hu64) (pe_cal C5 hr5 (by rfl) (pa_cons (pe_tup (pa_cons (pe_tup (pa_cons pe_int (pa_cons pe_int pa_nil))) (pa_cons (pe_tup (pa_cons pe_int (pa_cons pe_int pa_nil))) pa_nil))) pa_nil)) (pe_lst (pa_cons (pe_tup (pa_cons pe_int pa_nil)) (pa_cons (pe_tup (pa_cons pe_int pa_nil)) pa_nil))) (nomark _))
        (pw_or1 (pt_cmpR (oNeD K hu64) (pe_cal C5 hr5 (by rfl) (pa_cons (pe_tup (pa_cons (pe_tup (pa_cons pe_int (pa_cons pe_int pa_nil))) (pa_cons (pe_tup (pa_cons pe_int (pa_cons pe_int pa_nil))) pa_nil))) pa_nil)) (pe_lst (pa_cons (pe_tup (pa_cons pe_int (pa_cons pe_int pa_nil))) pa_nil)) (nomark _)))))) (pss_one (ps_ret pe_bl)) pss_nil)
    (pss_one (ps_ret (pe_and (pe_cal C4 hr (by rfl) (pa_cons (pv 4) pa_nil)) (pe_and (pe_cal C4 hr (by rfl) (pa_cons (pe_tup (pa_cons (pe_tup (pa_cons pe_int (pa_cons pe_int pa_nil))) pa_nil)) pa_nil)) (pe_and (pe_cal C4 hr (by rfl) (pa_cons (pe_tup (pa_cons (pe_tup (pa_cons pe_int (pa_cons pe_int pa_nil))) (pa_cons (pe_tup (pa_cons pe_int (pa_cons pe_int pa_nil))) (pa_cons (pe_tup (pa_cons pe_int (pa_cons pe_int pa_nil))) pa_nil)))) pa_nil)) (pe_one (pe_cal C4 hr (by rfl) (pa_cons (pe_tup (pa_cons (pe_tup (pa_cons pe_int (pa_cons pe_int pa_nil))) (pa_cons (pe_tup (pa_cons pe_int (pa_cons pe_int pa_nil))) (pa_cons (pe_tup (pa_cons pe_int (pa_cons pe_int pa_nil))) pa_nil)))) pa_nil))))))))))))), ?_⟩
  -- cup
  refine q_asgP (σ := [some (.ref a), none, none, none, none]) (fun v H1 => ∃ c, v = .ref c ∧ Cup H1 c) (fun Q q => ⟨.ref a, rfl, a, ns, rfl, hs, hl, fun c H' _ _ hc => q _ _ ⟨c, rfl, hc⟩⟩) fun v H1 hv => ?_
  obtain ⟨c, rfl, hc⟩ := hv
  refine q_forR1 (σ := [some (.ref a), some (.ref c), none, none, none]) (n := 3) (a1 ev_c) (by decide) (fun i σ' H' => ∃ y2, σ' = [some (.ref a), some (.ref c), y2, none, none] ∧ Cup H' c) (fun H2 e2 => ⟨none, rfl, hc.ex e2⟩) (fun i σ' H' hi hp => ?_) (fun σ' H' hp => ?_)
  · obtain ⟨y2, rfl, hc⟩ := hp
    refine table_go (i := 1) (k := 1) (m := 6) hc rfl (by decide) (by decide) (by decide) fun v n p q s t H2 hn1 hn2 c2 rv T => ?_
    exact ⟨v, n, p, q, s, t, rfl, rv, T, hn1, by omega, fun H3 e3 => ⟨true, rfl, _, rfl, c2.ex e3⟩⟩
  obtain ⟨y2, rfl, hc⟩ := hp
  refine q_asgP (σ := [some (.ref a), some (.ref c), y2, none, none]) (fun v H1 => ∃ (n : Nat) (p q s t : Nat → Nat), 7 ≤ n ∧ n < 21 ∧ TTN H1 v (tabD n p q) ∧ Tab2 n p q s t) (fun Q k => table_go (i := 1) (k := 7) (m := 14) hc rfl (by decide) (by decide) (by decide) fun v n p q s t H2 hn1 hn2 c2 rv T => k v H2 ⟨n, p, q, s, t, hn1, hn2, rv, T⟩) fun v H1 hv => ?_
  obtain ⟨n, p, q, s, t, hn1, hn2, rv, tab⟩ := hv
  obtain ⟨L, I⟩ := ties_ex tab
  refine q_when (σ := [some (.ref a), some (.ref c), y2, some v, none]) (b := false) (et_test (ev_is (ev_neLTN (K := K) (er_ties (ev_v rfl) rv tab (by omega) (by omega) I) (er_ties (ev_v rfl) rv tab (by omega) (by omega) I)) (by rw [decide_eq_true rfl]; rfl))) (fun z => absurd z Bool.noConfusion) fun _ H2 e2 => ?_
  refine q_asgE (σ := [some (.ref a), some (.ref c), y2, some v, none]) er_rung fun rg H3 e3 rr => ?_
  have erg : ∀ {H4 : Hp}, Ex H3 H4 → Er TTN (tVar 4) [some (.ref a), some (.ref c), y2, some v, some rg] H4 _ := fun e => er_var mTTN.m rfl (mTTN.m _ _ _ _ e rr)
  refine q_when (σ := [some (.ref a), some (.ref c), y2, some v, some rg]) (b := false) (et_or (et_test (ev_is (ev_neLTN (K := K) (er_tiesE (erg (Ex.refl H3)) tb_rung (by decide) (by decide) ti_rung) (er_lst mTN (Rg.ea_cons mTN.m (er_tup monT_nat.m (Rg.ea_cons monT_nat.m (er_nat (n := 0) ev_c) (Rg.ea_cons monT_nat.m (er_nat (n := 3) ev_c) (Rg.ea_cons monT_nat.m (er_nat (n := 4) ev_c) Rg.ea_nil))) (by decide)) (Rg.ea_cons mTN.m (er_tup monT_nat.m (Rg.ea_cons monT_nat.m (er_nat (n := 1) ev_c) (Rg.ea_cons monT_nat.m (er_nat (n := 2) ev_c) (Rg.ea_cons monT_nat.m (er_nat (n := 5) ev_c) Rg.ea_nil))) (by decide)) Rg.ea_nil)) (by decide))) rfl)) fun _ => et_or (et_test (ev_is (ev_neLTN (K := K) (er_tiesE er_two tb_two (by decide) (by decide) ti_two) (er_lst mTN (Rg.ea_cons mTN.m (er_tup monT_nat.m (Rg.ea_cons monT_nat.m (er_nat (n := 0) ev_c) Rg.ea_nil) (by decide)) (Rg.ea_cons mTN.m (er_tup monT_nat.m (Rg.ea_cons monT_nat.m (er_nat (n := 1) ev_c) Rg.ea_nil) (by decide)) Rg.ea_nil)) (by decide))) rfl)) fun _ => et_test (ev_is (ev_neLTN (K := K) (er_tiesE er_swap tb_swap (by decide) (by decide) ti_swap) (er_lst mTN (Rg.ea_cons mTN.m (er_tup monT_nat.m (Rg.ea_cons monT_nat.m (er_nat (n := 0) ev_c) (Rg.ea_cons monT_nat.m (er_nat (n := 1) ev_c) Rg.ea_nil)) (by decide)) Rg.ea_nil) (by decide))) rfl)) (fun z => absurd z Bool.noConfusion) fun _ H4 e4 => ?_
  exact ev_andV (ev_right (erg e4) tb_rung (by decide) (by decide)) (fun _ => ev_andV (ev_right er_one tb_one (by decide) (by decide)) fun _ => ev_andV (ev_right er_same tb_same (by decide) (by decide)) fun _ => ev_right er_ring tb_ring (by decide) (by decide)) H4 (Ex.refl H4) _ fun H5 _ => k H5
end
end Rg
/-! What the top has written; the end. -/
namespace Rg
open PySem L2 Evl RgR RgM
/-- a def of the top -/
def Got (K : PySem.W.Frag) (x : Str) (st : Stmt) : Prop := ∃ (f : Addr) (oc : Value) (od an : Option Addr) (sl : Array (Option Value)) (kV doc pm cd ct : Value), PySem.W.nsIn K mainGlobals x = some (some (.ref f)) ∧
  K.lookup f = some ⟨oc, od, .func (PySem.W.fnOf x x (defArgs st) (defBody st) (defScope st) .none kV doc pm an cd ct), sl⟩ ∧ PySem.W.codeIn K cd x = true ∧ PySem.W.keepIn K (.ref f) = true
theorem got {K : PySem.W.Frag} {x : Str} {st : Stmt} {f : Addr} {oc : Value} {od an : Option Addr} {sl : Array (Option Value)} {kV doc pm cd ct : Value} (a : PySem.W.nsIn K mainGlobals x = some (some (.ref f)))
    (l : K.lookup f = some ⟨oc, od, .func (PySem.W.fnOf x x (defArgs st) (defBody st) (defScope st) .none kV doc pm an cd ct), sl⟩) (c : PySem.W.codeIn K cd x = true) (k : PySem.W.keepIn K (.ref f) = true) : Got K x st := ⟨f, oc, od, an, sl, kV, doc, pm, cd, ct, a, l, c, k⟩
section
variable {l : PySem.W.OpenLaw} {w : World} {K : PySem.W.Frag} {h : Heap} {mg : Str → Option Value}
theorem bl_mk (X : K.In h) (G : h.Ns mainGlobals mg) {t1 t2 : Tok}
    (z_isinstance : PySem.W.nsIn K mainGlobals "isinstance" = some none)
    (z_int : PySem.W.nsIn K mainGlobals "int" = some none)
    (z_bool : PySem.W.nsIn K mainGlobals "bool" = some none)
    (z_tuple : PySem.W.nsIn K mainGlobals "tuple" = some none)
    (z_len : PySem.W.nsIn K mainGlobals "len" = some none)
    (z_all : PySem.W.nsIn K mainGlobals "all" = some none)
    (z_any : PySem.W.nsIn K mainGlobals "any" = some none)
    (z_set : PySem.W.nsIn K mainGlobals "set" = some none)
    (z_range : PySem.W.nsIn K mainGlobals "range" = some none)
    (z_zip : PySem.W.nsIn K mainGlobals "zip" = some none)
    (z_enumerate : PySem.W.nsIn K mainGlobals "enumerate" = some none)
    (z_dict : PySem.W.nsIn K mainGlobals "dict" = some none)
    (z_sorted : PySem.W.nsIn K mainGlobals "sorted" = some none)
    (z_list : PySem.W.nsIn K mainGlobals "list" = some none)
    (z_abs : PySem.W.nsIn K mainGlobals "abs" = some none)
    (z_sum : PySem.W.nsIn K mainGlobals "sum" = some none)
    (zR : PySem.W.nsIn K mainGlobals "ROWS" = some (some (.int 720 t1))) (zW : PySem.W.nsIn K mainGlobals "WAYS" = some (some (.int 6 t2))) : Bl mg :=
  ⟨PySem.W.mg_none_of X G z_isinstance, PySem.W.mg_none_of X G z_int, PySem.W.mg_none_of X G z_bool, PySem.W.mg_none_of X G z_tuple, PySem.W.mg_none_of X G z_len, PySem.W.mg_none_of X G z_all, PySem.W.mg_none_of X G z_any, PySem.W.mg_none_of X G z_set, PySem.W.mg_none_of X G z_range, PySem.W.mg_none_of X G z_zip, PySem.W.mg_none_of X G z_enumerate, PySem.W.mg_none_of X G z_dict, PySem.W.mg_none_of X G z_sorted, PySem.W.mg_none_of X G z_list, PySem.W.mg_none_of X G z_abs, PySem.W.mg_none_of X G z_sum, ⟨_, PySem.W.mg_of X G zR⟩, ⟨_, PySem.W.mg_of X G zW⟩⟩
theorem all_mk (X : K.In h) (G : h.Ns mainGlobals mg) {fa : Addr} (hfa : mg "law" = some (.ref fa)) (T : Bl mg)
    (gis_whole : Got K "is_whole" s_is_whole)
    (gis_tuple_of : Got K "is_tuple_of" s_is_tuple_of)
    (gfits_table : Got K "fits_table" s_fits_table)
    (gfits_choice : Got K "fits_choice" s_fits_choice)
    (gneed_table : Got K "need_table" s_need_table)
    (gneed_choice : Got K "need_choice" s_need_choice)
    (gnexts_by : Got K "nexts_by" s_nexts_by)
    (gmeeting_in : Got K "meeting_in" s_meeting_in)
    (gis_table : Got K "is_table" s_is_table)
    (gtwo_that_meet : Got K "two_that_meet" s_two_that_meet)
    (gneed_two : Got K "need_two" s_need_two)
    (gfits_told : Got K "fits_told" s_fits_told)
    (gneed_told : Got K "need_told" s_need_told)
    (gties_in : Got K "ties_in" s_ties_in)
    (gapart_in : Got K "apart_in" s_apart_in)
    (gfree_in : Got K "free_in" s_free_in)
    (gpower : Got K "power" s_power)
    (gties_of : Got K "ties_of" s_ties_of)
    (gcount_two : Got K "count_two" s_count_two)
    (g_law_cup : Got K "_law_cup" s_Lcup)
    (g_law_roll : Got K "_law_roll" s_Lroll)
    (g_law_nexts : Got K "_law_nexts" s_Lnexts)
    (g_law_is_one : Got K "_law_is_one" s_Lis_one)
    (g_law_way : Got K "_law_way" s_Lway)
    (g_law_table : Got K "_law_table" s_Ltable)
    (g_law_all : Got K "_law_all" s_Lall)
    (g_law_ties : Got K "_law_ties" s_Lties)
    (g_law_right : Got K "_law_right" s_Lright)
    (gL : Got K "law" s_law) : ∃ fd : FuncData, (∀ (s : Shared) (v : Value), BindsTo s fd ⟨[v], []⟩ [("_law_script", v)]) ∧ ∀ base : Heap, K.In base → base.Ns mainGlobals mg → FnOk l.prog w K mg base CX0 7 fa fd ["_law_script"] (spLaw (K := K)) := by
  obtain ⟨f0, oc0, od0, an0, sl0, kV0, doc0, pm0, cd0, ct0, a0, l0, c0, k0⟩ := gL
  have e := hfa.symm.trans (PySem.W.mg_of X G a0)
  cases e
  refine ⟨PySem.W.fnOf "law" "law" (defArgs s_law) (defBody s_law) (defScope s_law) .none kV0 doc0 pm0 an0 cd0 ct0, fun s v => .of_eq rfl, fun base _ _ => ?_⟩
  obtain ⟨f1, oc1, od1, an1, sl1, kV1, doc1, pm1, cd1, ct1, a1, l1, c1, k1⟩ := gis_whole
  have F1 := fun_mk (st := s_is_whole) l1 c1 k1
  have Cis_whole : Cal l.prog w K mg base 1 "is_whole" ["value", "low", "high"] spWhole := ⟨_, _, PySem.W.mg_of X G a1, k1, F1.binds (ps := ["value", "low", "high"]) (fun _ _ _ _ _ _ us hl => match us, hl with | [_, _, _], _ => rfl), ok_is_whole F1 T⟩
  obtain ⟨f2, oc2, od2, an2, sl2, kV2, doc2, pm2, cd2, ct2, a2, l2, c2, k2⟩ := gis_tuple_of
  have F2 := fun_mk (st := s_is_tuple_of) l2 c2 k2
  have Cis_tuple_of : Cal l.prog w K mg base 1 "is_tuple_of" ["value", "low", "high"] spTupleOf := ⟨_, _, PySem.W.mg_of X G a2, k2, F2.binds (ps := ["value", "low", "high"]) (fun _ _ _ _ _ _ us hl => match us, hl with | [_, _, _], _ => rfl), ok_is_tuple_of F2 T⟩
  obtain ⟨f3, oc3, od3, an3, sl3, kV3, doc3, pm3, cd3, ct3, a3, l3, c3, k3⟩ := gfits_table
  have F3 := fun_mk (st := s_fits_table) l3 c3 k3
  have Cfits_table : Cal l.prog w K mg base 2 "fits_table" ["value"] (spTabV (.bl true)) := ⟨_, _, PySem.W.mg_of X G a3, k3, F3.binds (ps := ["value"]) (fun _ _ _ _ _ _ us hl => match us, hl with | [_], _ => rfl), ok_fits_table F3 T Cis_tuple_of Cis_whole⟩
  obtain ⟨f4, oc4, od4, an4, sl4, kV4, doc4, pm4, cd4, ct4, a4, l4, c4, k4⟩ := gfits_choice
  have F4 := fun_mk (st := s_fits_choice) l4 c4 k4
  have Cfits_choice : Cal l.prog w K mg base 2 "fits_choice" ["table", "value"] (spTC (isV (.bl true))) := ⟨_, _, PySem.W.mg_of X G a4, k4, F4.binds (ps := ["table", "value"]) (fun _ _ _ _ _ _ us hl => match us, hl with | [_, _], _ => rfl), ok_fits_choice F4 T Cis_tuple_of Cis_whole⟩
  obtain ⟨f5, oc5, od5, an5, sl5, kV5, doc5, pm5, cd5, ct5, a5, l5, c5, k5⟩ := gneed_table
  have F5 := fun_mk (st := s_need_table) l5 c5 k5
  have Cneed_table : Cal l.prog w K mg base 3 "need_table" ["value"] (spTabV .non) := ⟨_, _, PySem.W.mg_of X G a5, k5, F5.binds (ps := ["value"]) (fun _ _ _ _ _ _ us hl => match us, hl with | [_], _ => rfl), ok_need_table F5 Cfits_table⟩
  obtain ⟨f6, oc6, od6, an6, sl6, kV6, doc6, pm6, cd6, ct6, a6, l6, c6, k6⟩ := gneed_choice
  have F6 := fun_mk (st := s_need_choice) l6 c6 k6
  have Cneed_choice : Cal l.prog w K mg base 3 "need_choice" ["table", "value"] (spTC (isV .non)) := ⟨_, _, PySem.W.mg_of X G a6, k6, F6.binds (ps := ["table", "value"]) (fun _ _ _ _ _ _ us hl => match us, hl with | [_, _], _ => rfl), ok_need_choice F6 Cfits_choice⟩
  obtain ⟨f7, oc7, od7, an7, sl7, kV7, doc7, pm7, cd7, ct7, a7, l7, c7, k7⟩ := gnexts_by
  have F7 := fun_mk (st := s_nexts_by) l7 c7 k7
  have Cnexts_by : Cal l.prog w K mg base 1 "nexts_by" ["table", "choice"] (spTC (gives nxL)) := ⟨_, _, PySem.W.mg_of X G a7, k7, F7.binds (ps := ["table", "choice"]) (fun _ _ _ _ _ _ us hl => match us, hl with | [_, _], _ => rfl), ok_nexts_by F7 T⟩
  obtain ⟨f8, oc8, od8, an8, sl8, kV8, doc8, pm8, cd8, ct8, a8, l8, c8, k8⟩ := gmeeting_in
  have F8 := fun_mk (st := s_meeting_in) l8 c8 k8
  have Cmeeting_in : Cal l.prog w K mg base 1 "meeting_in" ["nexts"] spMeet := ⟨_, _, PySem.W.mg_of X G a8, k8, F8.binds (ps := ["nexts"]) (fun _ _ _ _ _ _ us hl => match us, hl with | [_], _ => rfl), ok_meeting_in F8 T⟩
  obtain ⟨f9, oc9, od9, an9, sl9, kV9, doc9, pm9, cd9, ct9, a9, l9, c9, k9⟩ := gis_table
  have F9 := fun_mk (st := s_is_table) l9 c9 k9
  have Cis_table : Cal l.prog w K mg base 3 "is_table" ["value"] (spTabV (.bl true)) := ⟨_, _, PySem.W.mg_of X G a9, k9, F9.binds (ps := ["value"]) (fun _ _ _ _ _ _ us hl => match us, hl with | [_], _ => rfl), ok_is_table F9 Cfits_table⟩
  obtain ⟨f10, oc10, od10, an10, sl10, kV10, doc10, pm10, cd10, ct10, a10, l10, c10, k10⟩ := gtwo_that_meet
  have F10 := fun_mk (st := s_two_that_meet) l10 c10 k10
  have Ctwo_that_meet : Cal l.prog w K mg base 4 "two_that_meet" ["table", "choice"] (spTC meets) := ⟨_, _, PySem.W.mg_of X G a10, k10, F10.binds (ps := ["table", "choice"]) (fun _ _ _ _ _ _ us hl => match us, hl with | [_, _], _ => rfl), ok_two_that_meet F10 Cneed_table Cneed_choice Cnexts_by Cmeeting_in⟩
  obtain ⟨f11, oc11, od11, an11, sl11, kV11, doc11, pm11, cd11, ct11, a11, l11, c11, k11⟩ := gneed_two
  have F11 := fun_mk (st := s_need_two) l11 c11 k11
  have Cneed_two : Cal l.prog w K mg base 4 "need_two" ["value"] (spTabV .non) := ⟨_, _, PySem.W.mg_of X G a11, k11, F11.binds (ps := ["value"]) (fun _ _ _ _ _ _ us hl => match us, hl with | [_], _ => rfl), ok_need_two F11 T Cneed_table⟩
  obtain ⟨f12, oc12, od12, an12, sl12, kV12, doc12, pm12, cd12, ct12, a12, l12, c12, k12⟩ := gfits_told
  have F12 := fun_mk (st := s_fits_told) l12 c12 k12
  have Cfits_told : Cal l.prog w K mg base 2 "fits_told" ["table", "value"] (spTold (.bl true)) := ⟨_, _, PySem.W.mg_of X G a12, k12, F12.binds (ps := ["table", "value"]) (fun _ _ _ _ _ _ us hl => match us, hl with | [_, _], _ => rfl), ok_fits_told F12 T Cis_tuple_of Cis_whole⟩
  obtain ⟨f13, oc13, od13, an13, sl13, kV13, doc13, pm13, cd13, ct13, a13, l13, c13, k13⟩ := gneed_told
  have F13 := fun_mk (st := s_need_told) l13 c13 k13
  have Cneed_told : Cal l.prog w K mg base 3 "need_told" ["table", "value"] (spTold .non) := ⟨_, _, PySem.W.mg_of X G a13, k13, F13.binds (ps := ["table", "value"]) (fun _ _ _ _ _ _ us hl => match us, hl with | [_, _], _ => rfl), ok_need_told F13 Cfits_told⟩
  obtain ⟨f14, oc14, od14, an14, sl14, kV14, doc14, pm14, cd14, ct14, a14, l14, c14, k14⟩ := gties_in
  have F14 := fun_mk (st := s_ties_in) l14 c14 k14
  have Cties_in : Cal l.prog w K mg base 1 "ties_in" ["two"] spTies := ⟨_, _, PySem.W.mg_of X G a14, k14, F14.binds (ps := ["two"]) (fun _ _ _ _ _ _ us hl => match us, hl with | [_], _ => rfl), ok_ties_in F14 T⟩
  obtain ⟨f15, oc15, od15, an15, sl15, kV15, doc15, pm15, cd15, ct15, a15, l15, c15, k15⟩ := gapart_in
  have F15 := fun_mk (st := s_apart_in) l15 c15 k15
  have Capart_in : Cal l.prog w K mg base 1 "apart_in" ["ties", "told"] (spTies0 fun _ _ v => v = .non) := ⟨_, _, PySem.W.mg_of X G a15, k15, F15.binds (ps := ["ties", "told"]) (fun _ _ _ _ _ _ us hl => match us, hl with | [_, _], _ => rfl), ok_apart_in F15 T⟩
  obtain ⟨f16, oc16, od16, an16, sl16, kV16, doc16, pm16, cd16, ct16, a16, l16, c16, k16⟩ := gfree_in
  have F16 := fun_mk (st := s_free_in) l16 c16 k16
  have Cfree_in : Cal l.prog w K mg base 1 "free_in" ["ties", "told"] (spTies0 fun L H v => LTN H v L) := ⟨_, _, PySem.W.mg_of X G a16, k16, F16.binds (ps := ["ties", "told"]) (fun _ _ _ _ _ _ us hl => match us, hl with | [_, _], _ => rfl), ok_free_in F16 T⟩
  obtain ⟨f17, oc17, od17, an17, sl17, kV17, doc17, pm17, cd17, ct17, a17, l17, c17, k17⟩ := gpower
  have F17 := fun_mk (st := s_power) l17 c17 k17
  have Cpower : Cal l.prog w K mg base 1 "power" ["many"] spPow := ⟨_, _, PySem.W.mg_of X G a17, k17, F17.binds (ps := ["many"]) (fun _ _ _ _ _ _ us hl => match us, hl with | [_], _ => rfl), ok_power F17 T⟩
  obtain ⟨f18, oc18, od18, an18, sl18, kV18, doc18, pm18, cd18, ct18, a18, l18, c18, k18⟩ := gties_of
  have F18 := fun_mk (st := s_ties_of) l18 c18 k18
  have Cties_of : Cal l.prog w K mg base 5 "ties_of" ["two"] spTies := ⟨_, _, PySem.W.mg_of X G a18, k18, F18.binds (ps := ["two"]) (fun _ _ _ _ _ _ us hl => match us, hl with | [_], _ => rfl), ok_ties_of F18 Cneed_two Cties_in⟩
  obtain ⟨f19, oc19, od19, an19, sl19, kV19, doc19, pm19, cd19, ct19, a19, l19, c19, k19⟩ := gcount_two
  have F19 := fun_mk (st := s_count_two) l19 c19 k19
  have Ccount_two : Cal l.prog w K mg base 5 "count_two" ["two", "told"] spCount := ⟨_, _, PySem.W.mg_of X G a19, k19, F19.binds (ps := ["two", "told"]) (fun _ _ _ _ _ _ us hl => match us, hl with | [_, _], _ => rfl), ok_count_two F19 T Cneed_two Cneed_told Cties_in Cpower Cfree_in Capart_in⟩
  obtain ⟨f20, oc20, od20, an20, sl20, kV20, doc20, pm20, cd20, ct20, a20, l20, c20, k20⟩ := g_law_cup
  have F20 := fun_mk (st := s_Lcup) l20 c20 k20
  have C_law_cup : Cal l.prog w K mg base 1 "_law_cup" ["_law_script"] (spCup (K := K)) := ⟨_, _, PySem.W.mg_of X G a20, k20, F20.binds (ps := ["_law_script"]) (fun _ _ _ _ _ _ us hl => match us, hl with | [_], _ => rfl), ok_cup F20 T⟩
  obtain ⟨f21, oc21, od21, an21, sl21, kV21, doc21, pm21, cd21, ct21, a21, l21, c21, k21⟩ := g_law_roll
  have F21 := fun_mk (st := s_Lroll) l21 c21 k21
  have C_law_roll : Cal l.prog w K mg base 1 "_law_roll" ["_law_cup_here", "_law_many"] spRoll := ⟨_, _, PySem.W.mg_of X G a21, k21, F21.binds (ps := ["_law_cup_here", "_law_many"]) (fun _ _ _ _ _ _ us hl => match us, hl with | [_, _], _ => rfl), ok_roll F21 T⟩
  obtain ⟨f22, oc22, od22, an22, sl22, kV22, doc22, pm22, cd22, ct22, a22, l22, c22, k22⟩ := g_law_nexts
  have F22 := fun_mk (st := s_Lnexts) l22 c22 k22
  have C_law_nexts : Cal l.prog w K mg base 1 "_law_nexts" ["_law_table_here", "_law_choice"] (spTC (gives nxL)) := ⟨_, _, PySem.W.mg_of X G a22, k22, F22.binds (ps := ["_law_table_here", "_law_choice"]) (fun _ _ _ _ _ _ us hl => match us, hl with | [_, _], _ => rfl), ok_lnexts F22 T⟩
  obtain ⟨f23, oc23, od23, an23, sl23, kV23, doc23, pm23, cd23, ct23, a23, l23, c23, k23⟩ := g_law_is_one
  have F23 := fun_mk (st := s_Lis_one) l23 c23 k23
  have C_law_is_one : Cal l.prog w K mg base 1 "_law_is_one" ["_law_nexts_here"] spOne := ⟨_, _, PySem.W.mg_of X G a23, k23, F23.binds (ps := ["_law_nexts_here"]) (fun _ _ _ _ _ _ us hl => match us, hl with | [_], _ => rfl), ok_is_one F23 T⟩
  obtain ⟨f24, oc24, od24, an24, sl24, kV24, doc24, pm24, cd24, ct24, a24, l24, c24, k24⟩ := g_law_way
  have F24 := fun_mk (st := s_Lway) l24 c24 k24
  have C_law_way : Cal l.prog w K mg base 2 "_law_way" ["_law_cup_here", "_law_many"] spWay := ⟨_, _, PySem.W.mg_of X G a24, k24, F24.binds (ps := ["_law_cup_here", "_law_many"]) (fun _ _ _ _ _ _ us hl => match us, hl with | [_, _], _ => rfl), ok_way F24 T C_law_roll⟩
  obtain ⟨f25, oc25, od25, an25, sl25, kV25, doc25, pm25, cd25, ct25, a25, l25, c25, k25⟩ := g_law_table
  have F25 := fun_mk (st := s_Ltable) l25 c25 k25
  have C_law_table : Cal l.prog w K mg base 3 "_law_table" ["_law_cup_here", "_law_many", "_law_ways"] spTable := ⟨_, _, PySem.W.mg_of X G a25, k25, F25.binds (ps := ["_law_cup_here", "_law_many", "_law_ways"]) (fun _ _ _ _ _ _ us hl => match us, hl with | [_, _, _], _ => rfl), ok_table F25 T C_law_roll C_law_way⟩
  obtain ⟨f26, oc26, od26, an26, sl26, kV26, doc26, pm26, cd26, ct26, a26, l26, c26, k26⟩ := g_law_all
  have F26 := fun_mk (st := s_Lall) l26 c26 k26
  have C_law_all : Cal l.prog w K mg base 1 "_law_all" ["_law_many", "_law_ways"] spAll := ⟨_, _, PySem.W.mg_of X G a26, k26, F26.binds (ps := ["_law_many", "_law_ways"]) (fun _ _ _ _ _ _ us hl => match us, hl with | [_, _], _ => rfl), ok_all F26 T⟩
  obtain ⟨f27, oc27, od27, an27, sl27, kV27, doc27, pm27, cd27, ct27, a27, l27, c27, k27⟩ := g_law_ties
  have F27 := fun_mk (st := s_Lties) l27 c27 k27
  have C_law_ties : Cal l.prog w K mg base 1 "_law_ties" ["_law_table_here"] spTies := ⟨_, _, PySem.W.mg_of X G a27, k27, F27.binds (ps := ["_law_table_here"]) (fun _ _ _ _ _ _ us hl => match us, hl with | [_], _ => rfl), ok_lties F27 T⟩
  obtain ⟨f28, oc28, od28, an28, sl28, kV28, doc28, pm28, cd28, ct28, a28, l28, c28, k28⟩ := g_law_right
  have F28 := fun_mk (st := s_Lright) l28 c28 k28
  have C_law_right : Cal l.prog w K mg base 6 "_law_right" ["_law_table_here"] spRight := ⟨_, _, PySem.W.mg_of X G a28, k28, F28.binds (ps := ["_law_table_here"]) (fun _ _ _ _ _ _ us hl => match us, hl with | [_], _ => rfl), ok_right F28 T C_law_ties C_law_all Cis_table Cties_of Ctwo_that_meet C_law_is_one C_law_nexts Ccount_two⟩
  exact ok_law (fun_mk (st := s_law) l0 c0 k0) T C_law_cup C_law_roll C_law_table C_law_right Cties_of C_law_ties
end
theorem walk {l : PySem.W.OpenLaw} {q : Program} {loose : List Str} {XP : (Str → Option Value) → Heap → Prop} {YP : World → Heap → Prop} {d : DefRec} {K : Params → PySem.W.Frag} (hn : l.most = some 63) (hdf : d.params.defaults = [])
    (hY : ∀ (w : World) (h : Heap), YP w h → (K w.params).In h)
    (F : ∀ (w : World) (mg : Str → Option Value) (fa : Addr) (h : Heap), (K w.params).In h → h.Ns mainGlobals mg → mg d.name = some (.ref fa) →
      ∃ fd : FuncData, (∀ (s : Shared) (u : Value), BindsTo s fd ⟨[u], []⟩ [("_law_script", u)]) ∧ ∀ base : Heap, (K w.params).In base → base.Ns mainGlobals mg → FnOk l.prog w (K w.params) mg base CX0 7 fa fd ["_law_script"] (spLaw (K := K w.params))) :
    PySem.W.WalkO q loose XP YP l.row.toRowW d [] (fun f vs => PySem.call f vs) :=
  L2.walk_of (n := 63) (k := 7) (x := "_law_script") (CX := fun _ => CX0) (sp := fun w => spLaw (K := K w.params)) hn (by decide) hdf ⟨rfl, by decide, by decide⟩ hY F (fun _ _ a ns hl _ hS => ⟨a, ns, rfl, hS, hl, fun _ => rfl⟩) fun _ _ _ _ _ z => z
end Rg
open PySem PySem.W PyProof.Rows in
set_option maxRecDepth 100000 in
set_option maxHeartbeats 0 in
theorem PySem.Challenge.cw_rungonce_k20_whole_ties_of_two_ways_holds : PySem.Challenge.rw_rungonce_k20_whole_ties_of_two_ways.Holds := by
  w_on; o_law; k_head; (case hw => w_witness2)
  k_fill
  refine Rg.walk (l := PySem.Challenge.rw_rungonce_k20_whole_ties_of_two_ways) rfl rfl (fun w h Y => PySem.W.kIn_of Y) ?F
  case F =>
    intro w mg fa h KX G hmg
    refine' Rg.all_mk KX G hmg (Rg.bl_mk KX G ?zisinstance ?zint ?zbool ?ztuple ?zlen ?zall ?zany ?zset ?zrange ?zzip ?zenumerate ?zdict ?zsorted ?zlist ?zabs ?zsum ?zR ?zW) (Rg.got ?a1 ?l1 ?c1 ?k1) (Rg.got ?a2 ?l2 ?c2 ?k2) (Rg.got ?a3 ?l3 ?c3 ?k3) (Rg.got ?a4 ?l4 ?c4 ?k4) (Rg.got ?a5 ?l5 ?c5 ?k5) (Rg.got ?a6 ?l6 ?c6 ?k6) (Rg.got ?a7 ?l7 ?c7 ?k7) (Rg.got ?a8 ?l8 ?c8 ?k8) (Rg.got ?a9 ?l9 ?c9 ?k9) (Rg.got ?a10 ?l10 ?c10 ?k10) (Rg.got ?a11 ?l11 ?c11 ?k11) (Rg.got ?a12 ?l12 ?c12 ?k12) (Rg.got ?a13 ?l13 ?c13 ?k13) (Rg.got ?a14 ?l14 ?c14 ?k14) (Rg.got ?a15 ?l15 ?c15 ?k15) (Rg.got ?a16 ?l16 ?c16 ?k16) (Rg.got ?a17 ?l17 ?c17 ?k17) (Rg.got ?a18 ?l18 ?c18 ?k18) (Rg.got ?a19 ?l19 ?c19 ?k19) (Rg.got ?a20 ?l20 ?c20 ?k20) (Rg.got ?a21 ?l21 ?c21 ?k21) (Rg.got ?a22 ?l22 ?c22 ?k22) (Rg.got ?a23 ?l23 ?c23 ?k23) (Rg.got ?a24 ?l24 ?c24 ?k24) (Rg.got ?a25 ?l25 ?c25 ?k25) (Rg.got ?a26 ?l26 ?c26 ?k26) (Rg.got ?a27 ?l27 ?c27 ?k27) (Rg.got ?a28 ?l28 ?c28 ?k28) (Rg.got ?a0 ?l0 ?c0 ?k0)
    (case zisinstance => k_is)
    (case zint => k_is)
    (case zbool => k_is)
    (case ztuple => k_is)
    (case zlen => k_is)
    (case zall => k_is)
    (case zany => k_is)
    (case zset => k_is)
    (case zrange => k_is)
    (case zzip => k_is)
    (case zenumerate => k_is)
    (case zdict => k_is)
    (case zsorted => k_is)
    (case zlist => k_is)
    (case zabs => k_is)
    (case zsum => k_is)
    (case zR => k_is)
    (case zW => k_is)
    (case a1 => k_is)
    (case l1 => k_is)
    (case c1 => k_is)
    (case k1 => k_is)
    (case a2 => k_is)
    (case l2 => k_is)
    (case c2 => k_is)
    (case k2 => k_is)
    (case a3 => k_is)
    (case l3 => k_is)
    (case c3 => k_is)
    (case k3 => k_is)
    (case a4 => k_is)
    (case l4 => k_is)
    (case c4 => k_is)
    (case k4 => k_is)
    (case a5 => k_is)
    (case l5 => k_is)
    (case c5 => k_is)
    (case k5 => k_is)
    (case a6 => k_is)
    (case l6 => k_is)
    (case c6 => k_is)
    (case k6 => k_is)
    (case a7 => k_is)
    (case l7 => k_is)
    (case c7 => k_is)
    (case k7 => k_is)
    (case a8 => k_is)
    (case l8 => k_is)
    (case c8 => k_is)
    (case k8 => k_is)
    (case a9 => k_is)
    (case l9 => k_is)
    (case c9 => k_is)
    (case k9 => k_is)
    (case a10 => k_is)
    (case l10 => k_is)
    (case c10 => k_is)
    (case k10 => k_is)
    (case a11 => k_is)
    (case l11 => k_is)
    (case c11 => k_is)
    (case k11 => k_is)
    (case a12 => k_is)
    (case l12 => k_is)
    (case c12 => k_is)
    (case k12 => k_is)
    (case a13 => k_is)
    (case l13 => k_is)
    (case c13 => k_is)
    (case k13 => k_is)
    (case a14 => k_is)
    (case l14 => k_is)
    (case c14 => k_is)
    (case k14 => k_is)
    (case a15 => k_is)
    (case l15 => k_is)
    (case c15 => k_is)
    (case k15 => k_is)
    (case a16 => k_is)
    (case l16 => k_is)
    (case c16 => k_is)
    (case k16 => k_is)
    (case a17 => k_is)
    (case l17 => k_is)
    (case c17 => k_is)
    (case k17 => k_is)
    (case a18 => k_is)
    (case l18 => k_is)
    (case c18 => k_is)
    (case k18 => k_is)
    (case a19 => k_is)
    (case l19 => k_is)
    (case c19 => k_is)
    (case k19 => k_is)
    (case a20 => k_is)
    (case l20 => k_is)
    (case c20 => k_is)
    (case k20 => k_is)
    (case a21 => k_is)
    (case l21 => k_is)
    (case c21 => k_is)
    (case k21 => k_is)
    (case a22 => k_is)
    (case l22 => k_is)
    (case c22 => k_is)
    (case k22 => k_is)
    (case a23 => k_is)
    (case l23 => k_is)
    (case c23 => k_is)
    (case k23 => k_is)
    (case a24 => k_is)
    (case l24 => k_is)
    (case c24 => k_is)
    (case k24 => k_is)
    (case a25 => k_is)
    (case l25 => k_is)
    (case c25 => k_is)
    (case k25 => k_is)
    (case a26 => k_is)
    (case l26 => k_is)
    (case c26 => k_is)
    (case k26 => k_is)
    (case a27 => k_is)
    (case l27 => k_is)
    (case c27 => k_is)
    (case k27 => k_is)
    (case a28 => k_is)
    (case l28 => k_is)
    (case c28 => k_is)
    (case k28 => k_is)
    (case a0 => k_is)
    (case l0 => k_is)
    (case c0 => k_is)
    (case k0 => k_is)
