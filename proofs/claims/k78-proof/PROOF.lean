import PyProof.Rows.All
import Wide.All
import OpenK.AllK
import Wide.FinOn
import HandS.ForMost
import HandS.SetFor
import HandS.Strs
import HandS.NoneIn
import KE.KDictDisplayH
import HandS.Evl
import HandS.Star
import HandS.IsInst
import HandS.Style
import HandS.Deep
import HandS.Conv
import HandS.Defaults
import HandS.WideBits
import PySem.Challenge.RW_goesnext_k78_whole_blocks_forgotten
set_option Elab.async false
set_option linter.all false
set_option maxRecDepth 100000
/-! K78a: rules, sets of places as masks, what an access makes of them. -/
namespace K78
abbrev Plan := List (List Nat)
def rg (p : Plan) (i j : Nat) : Nat := (p.getD i []).getD j 0
theorem getD_of {α : Type} {l : List α} {i : Nat} {d : α} (h : i < l.length) : l.getD i d = l[i] := by
  rw [List.getD_eq_getElem?_getD, List.getElem?_eq_getElem h]
  rfl
theorem nodup_filter {α : Type} {l : List α} (f : α → Bool) (h : l.Nodup) : (l.filter f).Nodup := List.Pairwise.filter f h
structure RuleOk (p : Plan) : Prop where
  lo : 2 ≤ p.length
  hi : p.length ≤ 5
  row : ∀ r ∈ p, r.Perm (List.range p.length)
theorem RuleOk.rowAt {p : Plan} (h : RuleOk p) {i : Nat} (hi : i < p.length) : (p.getD i []).Perm (List.range p.length) := by
  rw [getD_of hi]
  exact h.row _ (List.getElem_mem hi)
theorem RuleOk.rlen {p : Plan} (h : RuleOk p) {i : Nat} (hi : i < p.length) : (p.getD i []).length = p.length := by
  rw [(h.rowAt hi).length_eq, List.length_range]
theorem RuleOk.rg_lt {p : Plan} (h : RuleOk p) {i j : Nat} (hi : i < p.length) (hj : j < p.length) : rg p i j < p.length := by
  have hl := h.rlen hi
  unfold rg
  rw [getD_of (by omega)]
  have hm : (p.getD i [])[j]'(by omega) ∈ List.range p.length := (h.rowAt hi).mem_iff.mp (List.getElem_mem _)
  exact List.mem_range.mp hm
theorem RuleOk.rg_inj {p : Plan} (h : RuleOk p) {i j j' : Nat} (hi : i < p.length) (hj : j < p.length) (hj' : j' < p.length) (e : rg p i j = rg p i j') : j = j' := by
  have hl := h.rlen hi
  have hn : (p.getD i []).Nodup := (h.rowAt hi).nodup_iff.mpr List.nodup_range
  unfold rg at e
  rw [getD_of (show j < (p.getD i []).length by omega), getD_of (show j' < (p.getD i []).length by omega)] at e
  exact (List.getElem_inj hn).mp e

/-! ### masks below 32 -/
/-- the places of a mask, ascending -/
def placesL (m : Nat) : List Nat := (List.range 5).filter m.testBit
def pc (m : Nat) : Nat := (placesL m).length
theorem mem_placesL {m i : Nat} : i ∈ placesL m ↔ i < 5 ∧ m.testBit i = true := by
  unfold placesL
  rw [List.mem_filter, List.mem_range]
theorem placesL_sorted (m : Nat) : (placesL m).Pairwise (· < ·) := List.Pairwise.filter _ List.pairwise_lt_range
theorem placesL_nodup (m : Nat) : (placesL m).Nodup := nodup_filter _ List.nodup_range
theorem bit_lt {m i : Nat} (h : m < 32) (hb : m.testBit i = true) : i < 5 := by
  by_cases c : i < 5
  · exact c
  · have h1 : m < 2 ^ i := Nat.lt_of_lt_of_le h (Nat.pow_le_pow_right (n := 2) (by omega) (show 5 ≤ i by omega))
    rw [Nat.testBit_lt_two_pow h1] at hb
    cases hb
theorem mask_ext {m m' : Nat} (h : m < 32) (h' : m' < 32) (e : ∀ i, i < 5 → m.testBit i = m'.testBit i) : m = m' := by
  refine Nat.eq_of_testBit_eq fun i => ?_
  by_cases c : i < 5
  · exact e i c
  · rw [Nat.testBit_lt_two_pow (Nat.lt_of_lt_of_le h (Nat.pow_le_pow_right (n := 2) (by omega) (show 5 ≤ i by omega))), Nat.testBit_lt_two_pow (Nat.lt_of_lt_of_le h' (Nat.pow_le_pow_right (n := 2) (by omega) (show 5 ≤ i by omega)))]
theorem placesL_inj {m m' : Nat} (h : m < 32) (h' : m' < 32) (e : placesL m = placesL m') : m = m' := by
  refine mask_ext h h' fun i hi => ?_
  have q : i ∈ placesL m ↔ i ∈ placesL m' := by rw [e]
  rw [mem_placesL, mem_placesL] at q
  cases a : m.testBit i <;> cases b : m'.testBit i <;> simp_all
theorem placesL_nil {m : Nat} (h : m < 32) : placesL m = [] ↔ m = 0 := by
  constructor
  · intro e
    exact placesL_inj h (by omega) (e.trans (by decide))
  · intro e
    subst e
    decide
theorem pow5_le {k : Nat} (h : k ≤ 5) : 2 ^ k ≤ 32 := Nat.pow_le_pow_right (n := 2) (by omega) h
/-- below 2 ^ k: all places below k -/
theorem lt_pow_iff {m k : Nat} (hk : k ≤ 5) (hm : m < 32) : m < 2 ^ k ↔ ∀ i ∈ placesL m, i < k := by
  constructor
  · intro h i hi
    rw [mem_placesL] at hi
    by_cases c : i < k
    · exact c
    · have h1 : m < 2 ^ i := Nat.lt_of_lt_of_le h (Nat.pow_le_pow_right (n := 2) (by omega) (by omega))
      rw [Nat.testBit_lt_two_pow h1] at hi
      cases hi.2
  · intro h
    refine Nat.lt_pow_two_of_testBit m fun i hi => ?_
    cases b : m.testBit i with
    | false => rfl
    | true =>
      have := h i (mem_placesL.mpr ⟨bit_lt hm b, b⟩)
      omega

/-! ### an access -/
/-- the sum of the powers of two -/
def sumB (l : List Nat) (a : Nat) : Nat := l.foldl (fun a x => a + 2 ^ x) a
theorem add_bit : ∀ a : Fin 32, ∀ x : Fin 5, a.1.testBit x.1 = false → a.1 + 2 ^ x.1 < 32 ∧ ∀ i : Fin 5, (a.1 + 2 ^ x.1).testBit i.1 = (a.1.testBit i.1 || i.1 == x.1) := by decide +kernel
theorem sumB_bits : ∀ (l : List Nat) (a : Nat), l.Nodup → (∀ x ∈ l, x < 5) → a < 32 → (∀ x ∈ l, a.testBit x = false) → sumB l a < 32 ∧ ∀ i, i < 5 → (sumB l a).testBit i = (a.testBit i || decide (i ∈ l))
  | [], a, _, _, ha, _ => ⟨ha, fun i _ => by simp [sumB]⟩
  | x :: l, a, hn, hl, ha, hd => by
    have hx : x < 5 := hl x List.mem_cons_self
    obtain ⟨h1, h2⟩ := add_bit ⟨a, ha⟩ ⟨x, hx⟩ (hd x List.mem_cons_self)
    have hn' := List.nodup_cons.mp hn
    obtain ⟨h3, h4⟩ := sumB_bits l (a + 2 ^ x) hn'.2 (fun y hy => hl y (List.mem_cons_of_mem _ hy)) h1 (fun y hy => by
      have e := h2 ⟨y, hl y (List.mem_cons_of_mem _ hy)⟩
      have e' : (a + 2 ^ x).testBit y = (a.testBit y || y == x) := e
      rw [e', hd y (List.mem_cons_of_mem _ hy)]
      have : y ≠ x := fun z => hn'.1 (z ▸ hy)
      simp [this])
    refine ⟨h3, fun i hi => ?_⟩
    have e : (a + 2 ^ x).testBit i = (a.testBit i || i == x) := h2 ⟨i, hi⟩
    show (sumB l (a + 2 ^ x)).testBit i = _
    rw [h4 i hi, e, Bool.or_assoc]
    congr 1
    by_cases c : i = x
    · simp [c]
    · simp [c]

/-- the places behind a hit at c, in the order of the places ahead -/
def hitL (p : Plan) (l : List Nat) (c : Nat) : List Nat := (l.filter (fun x => decide (x ≠ c))).map (rg p c)
def missL (l : List Nat) : List Nat := (l.filter (fun x => decide (0 < x))).map (· - 1)
/-- the mask behind an access -/
def mb (p : Plan) (m : Nat) : Option Nat → Nat
  | none => m / 2
  | some c => sumB (hitL p (placesL m) c) 0
def full (p : Plan) : Nat := 2 ^ p.length - 1

theorem hitL_nodup {p : Plan} (h : RuleOk p) {l : List Nat} {c : Nat} (hc : c < p.length) (hl : ∀ x ∈ l, x < p.length) (hn : l.Nodup) : (hitL p l c).Nodup := by
  unfold hitL
  have h1 : (l.filter (fun x => decide (x ≠ c))).Nodup := nodup_filter _ hn
  have h2 : ∀ x ∈ l.filter (fun x => decide (x ≠ c)), x < p.length := fun x hx => hl x (List.mem_filter.mp hx).1
  unfold List.Nodup at h1 ⊢
  rw [List.pairwise_map]
  refine List.Pairwise.imp_of_mem (fun {a b} ha hb hab e => hab (h.rg_inj hc (h2 a ha) (h2 b hb) e)) h1
theorem hitL_lt {p : Plan} (h : RuleOk p) {l : List Nat} {c : Nat} (hc : c < p.length) (hl : ∀ x ∈ l, x < p.length) : ∀ x ∈ hitL p l c, x < p.length := by
  intro x hx
  obtain ⟨y, hy, rfl⟩ := List.mem_map.mp hx
  exact h.rg_lt hc (hl y (List.mem_filter.mp hy).1)
theorem half_bits {m : Nat} (h : m < 32) : m / 2 < 32 ∧ ∀ i, (m / 2).testBit i = m.testBit (i + 1) := ⟨by omega, fun i => by rw [Nat.testBit_succ]⟩

/-- a mask of the rule -/
def Msk (p : Plan) (m : Nat) : Prop := m < 2 ^ p.length
theorem Msk.lt {p : Plan} (h : RuleOk p) {m : Nat} (hm : Msk p m) : m < 32 := Nat.lt_of_lt_of_le hm (pow5_le h.hi)
theorem Msk.places {p : Plan} (h : RuleOk p) {m : Nat} (hm : Msk p m) : ∀ i ∈ placesL m, i < p.length := (lt_pow_iff h.hi (hm.lt h)).mp hm
theorem mb_bits {p : Plan} (h : RuleOk p) {m c : Nat} (hm : Msk p m) (hc : c < p.length) : mb p m (some c) < 32 ∧ ∀ i, i < 5 → (mb p m (some c)).testBit i = decide (i ∈ hitL p (placesL m) c) := by
  have h1 := hitL_nodup h hc (hm.places h) (placesL_nodup m)
  have h2 := hitL_lt h hc (hm.places h)
  have h5 := h.hi
  obtain ⟨a, b⟩ := sumB_bits (hitL p (placesL m) c) 0 h1 (fun x hx => by have := h2 x hx; omega) (by omega) (fun x _ => Nat.zero_testBit x)
  refine ⟨a, fun i hi => ?_⟩
  show (sumB _ 0).testBit i = _
  rw [b i hi, Nat.zero_testBit, Bool.false_or]
theorem mb_msk {p : Plan} (h : RuleOk p) {m : Nat} (hm : Msk p m) : ∀ c : Option Nat, (∀ x, c = some x → x < p.length) → Msk p (mb p m c)
  | none, _ => by
    show m / 2 < 2 ^ p.length
    have : m < 2 ^ p.length := hm
    omega
  | some c, hc => by
    have hc := hc c rfl
    obtain ⟨a, b⟩ := mb_bits h hm hc
    refine (lt_pow_iff h.hi a).mpr fun i hi => ?_
    rw [mem_placesL] at hi
    rw [b i hi.1] at hi
    exact hitL_lt h hc (hm.places h) i (of_decide_eq_true hi.2)
/-- the places of the mask behind an access are those of the list behind it -/
theorem perm_hit {p : Plan} (h : RuleOk p) {m c : Nat} (hm : Msk p m) (hc : c < p.length) : (hitL p (placesL m) c).Perm (placesL (mb p m (some c))) := by
  obtain ⟨a, b⟩ := mb_bits h hm hc
  refine (List.perm_ext_iff_of_nodup (hitL_nodup h hc (hm.places h) (placesL_nodup m)) (placesL_nodup _)).mpr fun x => ?_
  rw [mem_placesL]
  constructor
  · intro hx
    have h1 := hitL_lt h hc (hm.places h) x hx
    have h5 := h.hi
    exact ⟨by omega, by rw [b x (by omega)]; exact decide_eq_true hx⟩
  · rintro ⟨h1, h2⟩
    rw [b x h1] at h2
    exact of_decide_eq_true h2
theorem miss_eq {m : Nat} (h : m < 32) : missL (placesL m) = placesL (mb [] m none) := by
  have all : ∀ m : Fin 32, missL (placesL m.1) = placesL (m.1 / 2) := by decide +kernel
  exact all ⟨m, h⟩
theorem sorted_eq {l l' : List Nat} (h : l.Pairwise (· ≤ ·)) (h' : l'.Pairwise (· < ·)) (p : l.Perm l') : l = l' :=
  List.Perm.eq_of_pairwise (fun a b _ _ h1 h2 => Nat.le_antisymm h1 h2) h (h'.imp fun h => Nat.le_of_lt h) p
theorem full_msk (p : Plan) : Msk p (full p) := by
  have : 0 < 2 ^ p.length := Nat.two_pow_pos _
  show 2 ^ p.length - 1 < 2 ^ p.length
  omega
theorem full_places {p : Plan} (h : RuleOk p) : placesL (full p) = List.range p.length := by
  have all : ∀ k : Fin 6, placesL (2 ^ k.1 - 1) = List.range k.1 := by decide +kernel
  exact all ⟨p.length, by have := h.hi; omega⟩
theorem full_pos {p : Plan} (h : RuleOk p) : full p ≠ 0 := by
  have all : ∀ k : Fin 6, 2 ≤ k.1 → 2 ^ k.1 - 1 ≠ 0 := by decide +kernel
  exact all ⟨p.length, by have := h.hi; omega⟩ h.lo
end K78

/-! K78b: the longest history, by recursion and by layers; the bounds. -/
namespace K78
/-! ### the potential -/
def sumK (k : Nat) : Nat → Nat
  | 0 => 0
  | n + 1 => sumK k n + (k - (n + 1))
def low (m : Nat) : Nat := (placesL m).headD 0
def phi (k m : Nat) : Nat := low m + sumK k (pc m - 1) + (pc m - 1)
def moves (m : Nat) : List (Option Nat) := none :: (placesL m).map some
theorem mem_moves {m : Nat} {c : Option Nat} : c ∈ moves m ↔ c = none ∨ ∃ x, x ∈ placesL m ∧ c = some x := by
  unfold moves
  rw [List.mem_cons, List.mem_map]
  constructor
  · rintro (h | ⟨x, h1, h2⟩)
    · exact .inl h
    · exact .inr ⟨x, h1, h2.symm⟩
  · rintro (h | ⟨x, h1, h2⟩)
    · exact .inl h
    · exact .inr ⟨x, h1, h2.symm⟩
theorem phi_miss : ∀ k : Fin 6, ∀ m : Fin 32, m.1 < 2 ^ k.1 → m.1 / 2 ≠ 0 → phi k.1 (m.1 / 2) < phi k.1 m.1 := by decide +kernel
/-- any mask with one place less has a lower potential -/
theorem phi_hit : ∀ k : Fin 6, ∀ m : Fin 32, ∀ m' : Fin 32, m.1 < 2 ^ k.1 → m'.1 < 2 ^ k.1 → m'.1 ≠ 0 → pc m'.1 + 1 = pc m.1 → phi k.1 m'.1 < phi k.1 m.1 := by decide +kernel
theorem phi_top : ∀ k : Fin 6, 2 ≤ k.1 → phi k.1 (2 ^ k.1 - 1) + 1 = 1 + (k.1 - 1) * (k.1 + 2) / 2 := by decide +kernel
theorem phi_le : ∀ k : Fin 6, ∀ m : Fin 32, m.1 < 2 ^ k.1 → phi k.1 m.1 ≤ 14 := by decide +kernel
theorem filter_ne_len : ∀ (l : List Nat) (c : Nat), l.Nodup → c ∈ l → (l.filter (fun x => decide (x ≠ c))).length + 1 = l.length
  | [], _, _, h => nomatch h
  | x :: l, c, hn, h => by
    obtain ⟨h1, h2⟩ := List.nodup_cons.mp hn
    by_cases e : x = c
    · subst e
      have : l.filter (fun y => decide (y ≠ x)) = l := by
        rw [List.filter_eq_self]
        intro y hy
        exact decide_eq_true fun z => h1 (z ▸ hy)
      rw [List.filter_cons, if_neg (by simp), this, List.length_cons]
    · have hc : c ∈ l := by
        rcases List.mem_cons.mp h with z | z
        · exact absurd z.symm e
        · exact z
      rw [List.filter_cons, if_pos (by simp [e]), List.length_cons, filter_ne_len l c h2 hc, List.length_cons]
theorem moves_lt {p : Plan} (h : RuleOk p) {m : Nat} (hm : Msk p m) {c : Option Nat} (hc : c ∈ moves m) : ∀ x, c = some x → x < p.length := by
  rintro x rfl
  rcases mem_moves.mp hc with e | ⟨y, hy, e⟩
  · cases e
  · cases e
    exact hm.places h x hy
theorem phi_mb {p : Plan} (h : RuleOk p) {m : Nat} (hm : Msk p m) {c : Option Nat} (hc : c ∈ moves m) (h0 : mb p m c ≠ 0) : phi p.length (mb p m c) < phi p.length m := by
  have h5 := h.hi
  rcases mem_moves.mp hc with rfl | ⟨x, hx, rfl⟩
  · exact phi_miss ⟨p.length, by omega⟩ ⟨m, hm.lt h⟩ hm h0
  · have hx' := hm.places h x hx
    have hm' := mb_msk h hm (some x) (by rintro y ⟨⟩; exact hx')
    refine phi_hit ⟨p.length, by omega⟩ ⟨m, hm.lt h⟩ ⟨mb p m (some x), hm'.lt h⟩ hm hm' h0 ?_
    show pc (mb p m (some x)) + 1 = pc m
    unfold pc
    rw [← (perm_hit h hm hx').length_eq]
    unfold hitL
    rw [List.length_map]
    exact filter_ne_len _ _ (placesL_nodup m) hx

/-! ### the longest history -/
def upL (L : Nat → Nat) (p : Plan) (m : Nat) (bc : Nat × Option Nat) (c : Option Nat) : Nat × Option Nat :=
  if mb p m c ≠ 0 ∧ L (mb p m c) + 1 > bc.1 then (L (mb p m c) + 1, c) else bc
def lfc (p : Plan) : Nat → Nat → Nat × Option Nat
  | 0, _ => (0, none)
  | n + 1, m => (moves m).foldl (upL (fun m' => (lfc p n m').1) p m) (0, none)
def LC (p : Plan) (m : Nat) : Nat × Option Nat := lfc p 16 m
def L (p : Plan) (m : Nat) : Nat := (LC p m).1
def C (p : Plan) (m : Nat) : Option Nat := (LC p m).2
theorem foldl_upL {L L' : Nat → Nat} {p : Plan} {m : Nat} : ∀ (cs : List (Option Nat)) (bc : Nat × Option Nat), (∀ c ∈ cs, mb p m c ≠ 0 → L (mb p m c) = L' (mb p m c)) → cs.foldl (upL L p m) bc = cs.foldl (upL L' p m) bc
  | [], _, _ => rfl
  | c :: cs, bc, h => by
    rw [List.foldl_cons, List.foldl_cons]
    have e : upL L p m bc c = upL L' p m bc c := by
      unfold upL
      by_cases z : mb p m c = 0
      · rw [if_neg (fun q => q.1 z), if_neg (fun q => q.1 z)]
      · rw [h c List.mem_cons_self z]
    rw [e]
    exact foldl_upL cs _ fun d hd => h d (List.mem_cons_of_mem _ hd)
theorem lfc_more {p : Plan} (h : RuleOk p) : ∀ (n m : Nat), Msk p m → phi p.length m < n → lfc p n m = lfc p (n + 1) m
  | 0, m, _, hn => by omega
  | n + 1, m, hm, hn => by
    show (moves m).foldl _ _ = (moves m).foldl _ _
    refine foldl_upL _ _ fun c hc h0 => ?_
    have h1 := phi_mb h hm hc h0
    show (lfc p n (mb p m c)).1 = (lfc p (n + 1) (mb p m c)).1
    rw [lfc_more h n (mb p m c) (mb_msk h hm c (moves_lt h hm hc)) (by omega)]
theorem phi_14 {p : Plan} (h : RuleOk p) {m : Nat} (hm : Msk p m) : phi p.length m ≤ 14 := phi_le ⟨p.length, by have := h.hi; omega⟩ ⟨m, hm.lt h⟩ hm
/-- one turn -/
theorem LC_eq {p : Plan} (h : RuleOk p) {m : Nat} (hm : Msk p m) : LC p m = (moves m).foldl (upL (L p) p m) (0, none) := by
  show (moves m).foldl _ _ = _
  refine foldl_upL _ _ fun c hc h0 => ?_
  show (lfc p 15 (mb p m c)).1 = (lfc p 16 (mb p m c)).1
  have hm' := mb_msk h hm c (moves_lt h hm hc)
  rw [lfc_more h 15 _ hm' (by have := phi_14 h hm'; omega)]
/-- the greatest, and who gives it -/
theorem foldl_upL_spec {L : Nat → Nat} {p : Plan} {m : Nat} : ∀ (cs : List (Option Nat)) (bc : Nat × Option Nat),
    bc.1 ≤ (cs.foldl (upL L p m) bc).1 ∧ (∀ c ∈ cs, mb p m c ≠ 0 → L (mb p m c) + 1 ≤ (cs.foldl (upL L p m) bc).1) ∧
    (cs.foldl (upL L p m) bc = bc ∨ ∃ c ∈ cs, mb p m c ≠ 0 ∧ cs.foldl (upL L p m) bc = (L (mb p m c) + 1, c))
  | [], bc => ⟨Nat.le_refl _, (fun c h => by cases h), .inl rfl⟩
  | c :: cs, bc => by
    rw [List.foldl_cons]
    obtain ⟨h1, h2, h3⟩ := foldl_upL_spec (L := L) (p := p) (m := m) cs (upL L p m bc c)
    by_cases z : mb p m c ≠ 0 ∧ L (mb p m c) + 1 > bc.1
    · have e : upL L p m bc c = (L (mb p m c) + 1, c) := if_pos z
      rw [e] at h1 h2 h3 ⊢
      refine ⟨Nat.le_trans (Nat.le_of_lt z.2) h1, fun d hd h0 => ?_, .inr ?_⟩
      · rcases List.mem_cons.mp hd with rfl | hd
        · exact h1
        · exact h2 d hd h0
      · rcases h3 with h3 | ⟨d, hd, h4, h5⟩
        · exact ⟨c, List.mem_cons_self, z.1, h3⟩
        · exact ⟨d, List.mem_cons_of_mem _ hd, h4, h5⟩
    · have e : upL L p m bc c = bc := if_neg z
      rw [e] at h1 h2 h3 ⊢
      refine ⟨h1, fun d hd h0 => ?_, ?_⟩
      · rcases List.mem_cons.mp hd with rfl | hd
        · have : ¬ L (mb p m d) + 1 > bc.1 := fun q => z ⟨h0, q⟩
          omega
        · exact h2 d hd h0
      · rcases h3 with h3 | ⟨d, hd, h4, h5⟩
        · exact .inl h3
        · exact .inr ⟨d, List.mem_cons_of_mem _ hd, h4, h5⟩
theorem L_ge {p : Plan} (h : RuleOk p) {m : Nat} (hm : Msk p m) {c : Option Nat} (hc : c ∈ moves m) (h0 : mb p m c ≠ 0) : L p (mb p m c) + 1 ≤ L p m := by
  have := (foldl_upL_spec (L := L p) (p := p) (m := m) (moves m) (0, none)).2.1 c hc h0
  rw [← LC_eq h hm] at this
  exact this
theorem L_pos {p : Plan} (h : RuleOk p) {m : Nat} (hm : Msk p m) (hp : 0 < L p m) : C p m ∈ moves m ∧ mb p m (C p m) ≠ 0 ∧ L p (mb p m (C p m)) + 1 = L p m := by
  have hp' : 0 < (LC p m).1 := hp
  rcases (foldl_upL_spec (L := L p) (p := p) (m := m) (moves m) (0, none)).2.2 with e | ⟨c, hc, h0, e⟩
  · rw [← LC_eq h hm] at e
    rw [e] at hp'
    exact absurd hp' (Nat.lt_irrefl _)
  · rw [← LC_eq h hm] at e
    have e1 : L p m = L p (mb p m c) + 1 := congrArg Prod.fst e
    have e2 : C p m = c := congrArg Prod.snd e
    rw [e2]
    exact ⟨hc, h0, e1.symm⟩
theorem L_le_phi {p : Plan} (h : RuleOk p) : ∀ (n m : Nat), Msk p m → phi p.length m < n → L p m ≤ phi p.length m
  | 0, m, _, hn => by omega
  | n + 1, m, hm, hn => by
    by_cases hp : 0 < L p m
    · obtain ⟨hc, h0, e⟩ := L_pos h hm hp
      have h1 := phi_mb h hm hc h0
      have := L_le_phi h n _ (mb_msk h hm _ (moves_lt h hm hc)) (by omega)
      omega
    · omega
theorem L_top {p : Plan} (h : RuleOk p) : L p (full p) + 1 ≤ 1 + (p.length - 1) * (p.length + 2) / 2 := by
  have h1 := L_le_phi h 15 (full p) (full_msk p) (by have := phi_14 h (full_msk p); omega)
  have h2 : phi p.length (full p) + 1 = 1 + (p.length - 1) * (p.length + 2) / 2 := phi_top ⟨p.length, by have := h.hi; omega⟩ h.lo
  omega
theorem L_low {p : Plan} (h : RuleOk p) : ∀ j, j ≤ p.length → j ≤ L p (2 ^ j - 1) + 1
  | 0, _ => Nat.zero_le _
  | 1, _ => Nat.succ_le_succ (Nat.zero_le _)
  | j + 2, hj => by
    have ih := L_low h (j + 1) (by omega)
    have hm : Msk p (2 ^ (j + 2) - 1) := by
      have h1 : 2 ^ (j + 2) ≤ 2 ^ p.length := Nat.pow_le_pow_right (by omega) hj
      have h2 : 0 < 2 ^ (j + 2) := Nat.two_pow_pos _
      show _ < _
      omega
    have e : mb p (2 ^ (j + 2) - 1) none = 2 ^ (j + 1) - 1 := by
      show (2 ^ (j + 2) - 1) / 2 = _
      rw [Nat.pow_succ 2 (j + 1)]
      omega
    have h0 : 2 ^ (j + 1) - 1 ≠ 0 := by
      rw [Nat.pow_succ]
      have : 0 < 2 ^ j := Nat.two_pow_pos _
      omega
    have := L_ge h hm (c := none) (mem_moves.mpr (.inl rfl)) (by rw [e]; exact h0)
    rw [e] at this
    omega
theorem L_bot {p : Plan} (h : RuleOk p) : p.length ≤ L p (full p) + 1 := L_low h p.length (Nat.le_refl _)

/-! ### the told history -/
def histR (p : Plan) : Nat → List (Option Nat) → Bool
  | m, [] => decide (m ≠ 0)
  | m, c :: cs => decide (c ∈ moves m) && histR p (mb p m c) cs
/-- the path of the chosen ones -/
def path (p : Plan) : Nat → Nat → List (Option Nat)
  | 0, _ => []
  | n + 1, m => C p m :: path p n (mb p m (C p m))
def maskAt (p : Plan) : Nat → Nat → Nat
  | 0, m => m
  | n + 1, m => maskAt p n (mb p m (C p m))
theorem path_right {p : Plan} (h : RuleOk p) : ∀ n m, Msk p m → m ≠ 0 → n = L p m → histR p m (path p n m) = true
  | 0, m, _, h0, _ => decide_eq_true h0
  | n + 1, m, hm, h0, e => by
    obtain ⟨hc, h1, e1⟩ := L_pos h hm (by omega)
    show (decide (C p m ∈ moves m) && _) = true
    rw [decide_eq_true hc, path_right h n _ (mb_msk h hm _ (moves_lt h hm hc)) h1 (by omega)]
    rfl
theorem path_len (p : Plan) : ∀ n m, (path p n m).length = n
  | 0, _ => rfl
  | n + 1, m => by
    show (path p n _).length + 1 = n + 1
    rw [path_len]
theorem path_snoc (p : Plan) : ∀ n m, path p (n + 1) m = path p n m ++ [C p (maskAt p n m)]
  | 0, _ => rfl
  | n + 1, m => by
    show C p m :: path p (n + 1) (mb p m (C p m)) = C p m :: path p n (mb p m (C p m)) ++ [_]
    rw [path_snoc p n]
    rfl
theorem maskAt_snoc (p : Plan) : ∀ n m, maskAt p (n + 1) m = mb p (maskAt p n m) (C p (maskAt p n m))
  | 0, _ => rfl
  | n + 1, m => maskAt_snoc p n (mb p m (C p m))
theorem maskAt_ok {p : Plan} (h : RuleOk p) : ∀ n m, Msk p m → m ≠ 0 → n ≤ L p m → Msk p (maskAt p n m) ∧ maskAt p n m ≠ 0 ∧ L p (maskAt p n m) + n = L p m
  | 0, m, hm, h0, _ => ⟨hm, h0, rfl⟩
  | n + 1, m, hm, h0, hn => by
    obtain ⟨hc, h1, e1⟩ := L_pos h hm (by omega)
    obtain ⟨a, b, c⟩ := maskAt_ok h n _ (mb_msk h hm _ (moves_lt h hm hc)) h1 (by omega)
    exact ⟨a, b, by show L p (maskAt p n (mb p m (C p m))) + (n + 1) = L p m; omega⟩

/-! ### the layers -/
def addN (acc : List Nat) (x : Nat) : List Nat := if x ≠ 0 ∧ x ∉ acc then acc ++ [x] else acc
def layC (p : Plan) (m : Nat) (acc : List Nat) (cs : List (Option Nat)) : List Nat := cs.foldl (fun a c => addN a (mb p m c)) acc
def lay (p : Plan) (ms acc : List Nat) : List Nat := ms.foldl (fun a m => layC p m a (moves m)) acc
theorem mem_addN {acc : List Nat} {x y : Nat} : y ∈ addN acc x ↔ y ∈ acc ∨ (y = x ∧ x ≠ 0) := by
  unfold addN
  by_cases h : x ≠ 0 ∧ x ∉ acc
  · rw [if_pos h, List.mem_append, List.mem_singleton]
    constructor
    · rintro (a | a)
      · exact .inl a
      · exact .inr ⟨a, h.1⟩
    · rintro (a | a)
      · exact .inl a
      · exact .inr a.1
  · rw [if_neg h]
    constructor
    · exact .inl
    · rintro (a | ⟨rfl, a⟩)
      · exact a
      · by_cases q : y ∈ acc
        · exact q
        · exact absurd ⟨a, q⟩ h
theorem nodup_addN {acc : List Nat} {x : Nat} (h : acc.Nodup) : (addN acc x).Nodup := by
  unfold addN
  by_cases c : x ≠ 0 ∧ x ∉ acc
  · rw [if_pos c]
    exact List.nodup_append.mpr ⟨h, by simp, fun a ha b hb => by
      rw [List.mem_singleton] at hb
      subst hb
      exact fun e => c.2 (e ▸ ha)⟩
  · rw [if_neg c]
    exact h
theorem layC_spec {p : Plan} {m : Nat} : ∀ (cs : List (Option Nat)) (acc : List Nat), (acc.Nodup → (layC p m acc cs).Nodup) ∧ ∀ y, y ∈ layC p m acc cs ↔ y ∈ acc ∨ ∃ c ∈ cs, y = mb p m c ∧ y ≠ 0
  | [], acc => ⟨id, fun y => ⟨.inl, fun h => h.elim id fun ⟨_, h, _⟩ => nomatch h⟩⟩
  | c :: cs, acc => by
    obtain ⟨h1, h2⟩ := layC_spec (p := p) (m := m) cs (addN acc (mb p m c))
    refine ⟨fun h => h1 (nodup_addN h), fun y => ?_⟩
    show y ∈ layC p m (addN acc (mb p m c)) cs ↔ _
    rw [h2 y, mem_addN]
    constructor
    · rintro ((a | ⟨a, b⟩) | ⟨d, hd, a, b⟩)
      · exact .inl a
      · exact .inr ⟨c, List.mem_cons_self, a, a ▸ b⟩
      · exact .inr ⟨d, List.mem_cons_of_mem _ hd, a, b⟩
    · rintro (a | ⟨d, hd, a, b⟩)
      · exact .inl (.inl a)
      · rcases List.mem_cons.mp hd with rfl | hd
        · exact .inl (.inr ⟨a, a ▸ b⟩)
        · exact .inr ⟨d, hd, a, b⟩
theorem lay_spec {p : Plan} : ∀ (ms acc : List Nat), (acc.Nodup → (lay p ms acc).Nodup) ∧ ∀ y, y ∈ lay p ms acc ↔ y ∈ acc ∨ ∃ m ∈ ms, ∃ c ∈ moves m, y = mb p m c ∧ y ≠ 0
  | [], acc => ⟨id, fun y => ⟨.inl, fun h => h.elim id fun ⟨_, h, _⟩ => nomatch h⟩⟩
  | m :: ms, acc => by
    obtain ⟨h1, h2⟩ := lay_spec (p := p) ms (layC p m acc (moves m))
    obtain ⟨h3, h4⟩ := layC_spec (p := p) (m := m) (moves m) acc
    refine ⟨fun h => h1 (h3 h), fun y => ?_⟩
    show y ∈ lay p ms (layC p m acc (moves m)) ↔ _
    rw [h2 y, h4 y]
    constructor
    · rintro ((a | ⟨c, hc, a, b⟩) | ⟨n, hn, q⟩)
      · exact .inl a
      · exact .inr ⟨m, List.mem_cons_self, c, hc, a, b⟩
      · exact .inr ⟨n, List.mem_cons_of_mem _ hn, q⟩
    · rintro (a | ⟨n, hn, q⟩)
      · exact .inl (.inl a)
      · rcases List.mem_cons.mp hn with rfl | hn
        · exact .inl (.inr q)
        · exact .inr ⟨n, hn, q⟩
/-- a layer of masks of which the longest histories have r more accesses -/
structure Lay (p : Plan) (ms : List Nat) (r : Nat) : Prop where
  nd : ms.Nodup
  ok : ∀ m ∈ ms, Msk p m ∧ m ≠ 0
  le : ∀ m ∈ ms, L p m ≤ r
  at' : ∃ m ∈ ms, L p m = r
theorem Lay.len {p : Plan} (h : RuleOk p) {ms : List Nat} (nd : ms.Nodup) (ok : ∀ m ∈ ms, Msk p m ∧ m ≠ 0) : ms.length ≤ 32 := by
  have := nd.length_le_of_subset (l₂ := List.range 32) fun m hm => List.mem_range.mpr ((ok m hm).1.lt h)
  rwa [List.length_range] at this
theorem lay_next {p : Plan} (h : RuleOk p) {ms : List Nat} {r : Nat} (l : Lay p ms r) : (r = 0 ∧ lay p ms [] = []) ∨ (0 < r ∧ Lay p (lay p ms []) (r - 1)) := by
  obtain ⟨h1, h2⟩ := lay_spec (p := p) ms []
  have key : ∀ y ∈ lay p ms [], Msk p y ∧ y ≠ 0 ∧ L p y + 1 ≤ r := fun y hy => by
    rcases (h2 y).mp hy with a | ⟨m, hm, c, hc, rfl, h0⟩
    · cases a
    · obtain ⟨q, _⟩ := l.ok m hm
      exact ⟨mb_msk h q c (moves_lt h q hc), h0, Nat.le_trans (L_ge h q hc h0) (l.le m hm)⟩
  by_cases hr : 0 < r
  · refine .inr ⟨hr, h1 List.nodup_nil, fun y hy => ⟨(key y hy).1, (key y hy).2.1⟩, fun y hy => by have := (key y hy).2.2; omega, ?_⟩
    obtain ⟨m, hm, e⟩ := l.at'
    obtain ⟨q, _⟩ := l.ok m hm
    obtain ⟨hc, h0, e1⟩ := L_pos h q (by omega)
    exact ⟨_, (h2 _).mpr (.inr ⟨m, hm, _, hc, rfl, h0⟩), by omega⟩
  · refine .inl ⟨by omega, ?_⟩
    cases e : lay p ms [] with
    | nil => rfl
    | cons y ys =>
      have := (key y (by rw [e]; exact List.mem_cons_self)).2.2
      omega
theorem lay_first {p : Plan} (h : RuleOk p) : Lay p [full p] (L p (full p)) where
  nd := by simp
  ok := fun m hm => by
    rw [List.mem_singleton] at hm
    subst hm
    exact ⟨full_msk p, full_pos h⟩
  le := fun m hm => by
    rw [List.mem_singleton] at hm
    subst hm
    exact Nat.le_refl _
  at' := ⟨_, List.mem_singleton.mpr rfl, rfl⟩
end K78

/-! K78c: items, walks, ways out, lost ways. -/
namespace K78
inductive It where
  | miss
  | own
  | hit (n : Nat)
  deriving DecidableEq
def ItOk (p : Plan) (i : It) : Prop := ∀ h, i = .hit h → h < p.length
/-- where an item takes the block -/
def look (p : Plan) (q : Nat) : It → Option (Option Nat)
  | .miss => some (if 0 < q then some (q - 1) else none)
  | .own => some (some (rg p q q))
  | .hit h => if h < p.length ∧ h ≠ q then some (some (rg p h q)) else none
def pb (p : Plan) : Option Nat → List It → Option (Option Nat)
  | h, [] => some h
  | none, _ :: _ => none
  | some q, i :: is => match look p q i with
    | none => none
    | some h => pb p h is
def over (g : Option Nat) (m : Nat) : Bool := match g with
  | none => false
  | some g => decide (g < m)
def wk (p : Plan) (g : Option Nat) : Nat → Nat → List It → Bool
  | _, _, [] => false
  | q, _, .own :: is => match g with
    | none => false
    | some _ => wk p g (rg p q q) 0 is
  | q, m, .miss :: is => if over g (m + 1) = true then false else if q = 0 then is.isEmpty else wk p g (q - 1) (m + 1) is
  | q, m, .hit h :: is => if h = q ∨ over g (m + 1) = true then false else wk p g (rg p h q) (m + 1) is
def cnt (s : Nat × Nat) (i : It) : Nat × Nat := if i = .own then (0, s.2) else (s.1 + 1, max s.2 (s.1 + 1))
def mo (its : List It) : Nat × Nat := its.foldl cnt (0, 0)

theorem cnt_mono : ∀ (its : List It) (s : Nat × Nat), s.2 ≤ (its.foldl cnt s).2
  | [], s => Nat.le_refl _
  | i :: is, s => by
    refine Nat.le_trans ?_ (cnt_mono is (cnt s i))
    unfold cnt
    split
    · exact Nat.le_refl _
    · exact Nat.le_max_left _ _
theorem pb_none {p : Plan} : ∀ its : List It, pb p none its = some none ↔ its = []
  | [] => by simp [pb]
  | _ :: _ => by simp [pb]
theorem wk_some {p : Plan} (h : RuleOk p) {g : Nat} : ∀ (its : List It) (q m b : Nat), q < p.length → (∀ i ∈ its, ItOk p i) → b ≤ g →
    wk p (some g) q m its = (decide (pb p (some q) its = some none) && decide ((its.foldl cnt (m, b)).2 ≤ g))
  | [], q, m, b, _, _, _ => by simp [wk, pb]
  | .own :: is, q, m, b, hq, hi, hb => by
    have ih := wk_some h is (rg p q q) 0 b (h.rg_lt hq hq) (fun i hi' => hi i (List.mem_cons_of_mem _ hi')) hb
    show wk p (some g) (rg p q q) 0 is = _
    rw [ih]
    rfl
  | .miss :: is, q, m, b, hq, hi, hb => by
    have e : (It.miss :: is).foldl cnt (m, b) = is.foldl cnt (m + 1, max b (m + 1)) := rfl
    rw [e]
    by_cases c : g < m + 1
    · have h1 : wk p (some g) q m (.miss :: is) = false := if_pos (decide_eq_true c)
      have h2 := cnt_mono is (m + 1, max b (m + 1))
      have h3 : ¬ (is.foldl cnt (m + 1, max b (m + 1))).2 ≤ g := by
        have : m + 1 ≤ max b (m + 1) := Nat.le_max_right _ _
        have h2' : max b (m + 1) ≤ (is.foldl cnt (m + 1, max b (m + 1))).2 := h2
        omega
      rw [h1, decide_eq_false h3, Bool.and_false]
    · have h0 : ¬ over (some g) (m + 1) = true := fun z => c (of_decide_eq_true z)
      have hb' : max b (m + 1) ≤ g := by omega
      by_cases c0 : q = 0
      · have h1 : wk p (some g) q m (.miss :: is) = is.isEmpty := by
          show (if _ then _ else _) = _
          rw [if_neg h0, if_pos c0]
        have h2 : pb p (some q) (.miss :: is) = pb p none is := by
          subst c0
          rfl
        rw [h1, h2]
        cases is with
        | nil => simp [pb, hb']
        | cons i is => simp [pb]
      · have h1 : wk p (some g) q m (.miss :: is) = wk p (some g) (q - 1) (m + 1) is := by
          show (if _ then _ else _) = _
          rw [if_neg h0, if_neg c0]
        have h2 : pb p (some q) (.miss :: is) = pb p (some (q - 1)) is := by
          show (match look p q .miss with | none => none | some h => pb p h is) = _
          rw [show look p q .miss = some (some (q - 1)) from by
            show some (if 0 < q then some (q - 1) else none) = _
            rw [if_pos (by omega)]]
        rw [h1, h2]
        exact wk_some h is (q - 1) (m + 1) (max b (m + 1)) (by omega) (fun i hi' => hi i (List.mem_cons_of_mem _ hi')) hb'
  | .hit n :: is, q, m, b, hq, hi, hb => by
    have hn : n < p.length := hi _ List.mem_cons_self n rfl
    have e : (It.hit n :: is).foldl cnt (m, b) = is.foldl cnt (m + 1, max b (m + 1)) := rfl
    rw [e]
    by_cases c : g < m + 1
    · have h1 : wk p (some g) q m (.hit n :: is) = false := if_pos (.inr (decide_eq_true c))
      have h2 := cnt_mono is (m + 1, max b (m + 1))
      have h3 : ¬ (is.foldl cnt (m + 1, max b (m + 1))).2 ≤ g := by
        have : m + 1 ≤ max b (m + 1) := Nat.le_max_right _ _
        have h2' : max b (m + 1) ≤ (is.foldl cnt (m + 1, max b (m + 1))).2 := h2
        omega
      rw [h1, decide_eq_false h3, Bool.and_false]
    · have hb' : max b (m + 1) ≤ g := by omega
      by_cases c0 : n = q
      · have h1 : wk p (some g) q m (.hit n :: is) = false := if_pos (.inl c0)
        have h2 : pb p (some q) (.hit n :: is) = none := by
          show (match look p q (.hit n) with | none => none | some h => pb p h is) = _
          rw [show look p q (.hit n) = none from if_neg fun z => z.2 c0]
        rw [h1, h2]
        simp
      · have h1 : wk p (some g) q m (.hit n :: is) = wk p (some g) (rg p n q) (m + 1) is := if_neg (by
          rintro (z | z)
          · exact c0 z
          · exact c (of_decide_eq_true z))
        have h2 : pb p (some q) (.hit n :: is) = pb p (some (rg p n q)) is := by
          show (match look p q (.hit n) with | none => none | some h => pb p h is) = _
          rw [show look p q (.hit n) = some (some (rg p n q)) from if_pos ⟨hn, c0⟩]
        rw [h1, h2]
        exact wk_some h is _ (m + 1) (max b (m + 1)) (h.rg_lt hn hq) (fun i hi' => hi i (List.mem_cons_of_mem _ hi')) hb'
def noOwn (its : List It) : Bool := its.all fun i => decide (i ≠ .own)
theorem wk_none {p : Plan} (h : RuleOk p) : ∀ (its : List It) (q m : Nat), q < p.length → (∀ i ∈ its, ItOk p i) →
    wk p none q m its = (noOwn its && decide (pb p (some q) its = some none))
  | [], q, m, _, _ => by simp [wk, pb]
  | .own :: is, q, m, hq, hi => by
    show false = _
    simp [noOwn]
  | .miss :: is, q, m, hq, hi => by
    have e : noOwn (.miss :: is) = noOwn is := rfl
    rw [e]
    by_cases c0 : q = 0
    · have h1 : wk p none q m (.miss :: is) = is.isEmpty := by
        show (if _ then _ else _) = _
        rw [if_neg (show ¬ over none (m + 1) = true from Bool.false_ne_true), if_pos c0]
      have h2 : pb p (some q) (.miss :: is) = pb p none is := by
        subst c0
        rfl
      rw [h1, h2]
      cases is with
      | nil => simp [pb, noOwn]
      | cons i is => simp [pb]
    · have h1 : wk p none q m (.miss :: is) = wk p none (q - 1) (m + 1) is := by
        show (if _ then _ else _) = _
        rw [if_neg (show ¬ over none (m + 1) = true from Bool.false_ne_true), if_neg c0]
      have h2 : pb p (some q) (.miss :: is) = pb p (some (q - 1)) is := by
        show (match look p q .miss with | none => none | some h => pb p h is) = _
        rw [show look p q .miss = some (some (q - 1)) from by
          show some (if 0 < q then some (q - 1) else none) = _
          rw [if_pos (by omega)]]
      rw [h1, h2]
      exact wk_none h is (q - 1) (m + 1) (by omega) (fun i hi' => hi i (List.mem_cons_of_mem _ hi'))
  | .hit n :: is, q, m, hq, hi => by
    have hn : n < p.length := hi _ List.mem_cons_self n rfl
    have e : noOwn (.hit n :: is) = noOwn is := rfl
    rw [e]
    by_cases c0 : n = q
    · have h1 : wk p none q m (.hit n :: is) = false := if_pos (.inl c0)
      have h2 : pb p (some q) (.hit n :: is) = none := by
        show (match look p q (.hit n) with | none => none | some h => pb p h is) = _
        rw [show look p q (.hit n) = none from if_neg fun z => z.2 c0]
      rw [h1, h2]
      simp
    · have h1 : wk p none q m (.hit n :: is) = wk p none (rg p n q) (m + 1) is := if_neg (by
        rintro (z | z)
        · exact c0 z
        · exact Bool.noConfusion z)
      have h2 : pb p (some q) (.hit n :: is) = pb p (some (rg p n q)) is := by
        show (match look p q (.hit n) with | none => none | some h => pb p h is) = _
        rw [show look p q (.hit n) = some (some (rg p n q)) from if_pos ⟨hn, c0⟩]
      rw [h1, h2]
      exact wk_none h is _ (m + 1) (h.rg_lt hn hq) (fun i hi' => hi i (List.mem_cons_of_mem _ hi'))
theorem pb_snoc {p : Plan} : ∀ (its : List It) (h : Option Nat) (i : It), pb p h (its ++ [i]) = (pb p h its).bind fun h' => pb p h' [i]
  | [], h, i => rfl
  | j :: is, none, i => rfl
  | j :: is, some q, i => by
    show (match look p q j with | none => none | some h => pb p h (is ++ [i])) = Option.bind (match look p q j with | none => none | some h => pb p h is) _
    cases look p q j with
    | none => rfl
    | some h => exact pb_snoc is h i
theorem pb_step {p : Plan} {its : List It} {h : Option Nat} {q : Nat} {i : It} (e : pb p h its = some (some q)) : pb p h (its ++ [i]) = look p q i := by
  rw [pb_snoc, e]
  show (match look p q i with | none => none | some h => pb p h []) = _
  cases look p q i with
  | none => rfl
  | some h => cases h <;> rfl

/-! ### moves of a block -/
def mv (p : Plan) (q : Nat) : List (It × Option Nat) :=
  (.miss, if 0 < q then some (q - 1) else none) :: ((List.range p.length).filter (fun h => decide (h ≠ q))).map fun h => (.hit h, some (rg p h q))
theorem mem_mv {p : Plan} {q : Nat} {i : It} {t : Option Nat} (h : (i, t) ∈ mv p q) : i ≠ .own ∧ ItOk p i ∧ look p q i = some t := by
  unfold mv at h
  rcases List.mem_cons.mp h with h | h
  · injection h with h1 h2
    subst h1 h2
    exact ⟨(fun z => nomatch z), (fun _ z => nomatch z), rfl⟩
  · obtain ⟨x, hx, e⟩ := List.mem_map.mp h
    injection e with h1 h2
    subst h1 h2
    obtain ⟨a, b⟩ := List.mem_filter.mp hx
    have a' := List.mem_range.mp a
    have b' : x ≠ q := of_decide_eq_true b
    refine ⟨(fun z => nomatch z), fun n z => ?_, if_pos ⟨a', b'⟩⟩
    injection z with z
    omega
/-- where others' accesses take a block -/
def sc (p : Plan) (q : Nat) : List Nat := (if 0 < q then [q - 1] else []) ++ ((List.range p.length).filter (fun h => decide (h ≠ q))).map fun h => rg p h q
theorem mem_sc {p : Plan} {q t : Nat} : t ∈ sc p q ↔ ∃ i, (i, some t) ∈ mv p q := by
  unfold sc mv
  constructor
  · intro h
    rcases List.mem_append.mp h with h | h
    · by_cases c : 0 < q
      · rw [if_pos c, List.mem_singleton] at h
        exact ⟨.miss, by rw [if_pos c, h]; exact List.mem_cons_self⟩
      · rw [if_neg c] at h
        cases h
    · obtain ⟨x, hx, e⟩ := List.mem_map.mp h
      exact ⟨.hit x, List.mem_cons_of_mem _ (List.mem_map.mpr ⟨x, hx, by rw [e]⟩)⟩
  · rintro ⟨i, h⟩
    rcases List.mem_cons.mp h with h | h
    · injection h with h1 h2
      by_cases c : 0 < q
      · rw [if_pos c] at h2
        injection h2 with h2
        rw [if_pos c, h2]
        exact List.mem_append_left _ List.mem_cons_self
      · rw [if_neg c] at h2
        cases h2
    · obtain ⟨x, hx, e⟩ := List.mem_map.mp h
      injection e with h1 h2
      injection h2 with h2
      exact List.mem_append_right _ (List.mem_map.mpr ⟨x, hx, h2⟩)
theorem sc_lt {p : Plan} (h : RuleOk p) {q t : Nat} (hq : q < p.length) (ht : t ∈ sc p q) : t < p.length := by
  rcases List.mem_append.mp ht with a | a
  · by_cases c : 0 < q
    · rw [if_pos c, List.mem_singleton] at a
      omega
    · rw [if_neg c] at a
      cases a
  · obtain ⟨x, hx, e⟩ := List.mem_map.mp a
    have := List.mem_range.mp (List.mem_filter.mp hx).1
    rw [← e]
    exact h.rg_lt this hq

/-! ### layers of places, by the law -/
def succL (p : Plan) (l : List Nat) : List Nat := l.map (· - 1) ++ (l.map fun h => ((List.range p.length).filter (fun q => decide (q ≠ h))).map fun q => rg p q h).flatten
/-- the sorted list of the different items -/
def ss (l : List Nat) : List Nat := (List.range 5).filter fun x => decide (x ∈ l)
def nxt (p : Plan) (l kn : List Nat) : List Nat := ss ((succL p l).filter fun x => decide (x ∉ kn))
def layK (p : Plan) (p0 : Nat) : Nat → List Nat × List Nat
  | 0 => ([p0], [p0])
  | t + 1 => (nxt p (layK p p0 t).1 (layK p p0 t).2, (layK p p0 t).2 ++ nxt p (layK p p0 t).1 (layK p p0 t).2)
theorem mem_ss {l : List Nat} (h : ∀ x ∈ l, x < 5) {x : Nat} : x ∈ ss l ↔ x ∈ l := by
  unfold ss
  rw [List.mem_filter, List.mem_range]
  exact ⟨fun a => of_decide_eq_true a.2, fun a => ⟨h x a, decide_eq_true a⟩⟩
theorem ss_sorted (l : List Nat) : (ss l).Pairwise (· < ·) := List.Pairwise.filter _ List.pairwise_lt_range
theorem ss_nodup (l : List Nat) : (ss l).Nodup := nodup_filter _ List.nodup_range
theorem ss_len (l : List Nat) : (ss l).length ≤ 5 := Nat.le_trans (List.length_filter_le _ _) (by rw [List.length_range]; exact Nat.le_refl 5)
theorem mem_succL {p : Plan} {l : List Nat} (h0 : 0 ∉ l) {t : Nat} : t ∈ succL p l ↔ ∃ q ∈ l, t ∈ sc p q := by
  unfold succL sc
  rw [List.mem_append, List.mem_map, List.mem_flatten]
  constructor
  · rintro (⟨q, hq, rfl⟩ | ⟨r, hr, ht⟩)
    · have : 0 < q := Nat.pos_of_ne_zero fun e => h0 (e ▸ hq)
      exact ⟨q, hq, List.mem_append_left _ (by rw [if_pos this]; exact List.mem_singleton.mpr rfl)⟩
    · obtain ⟨q, hq, rfl⟩ := List.mem_map.mp hr
      exact ⟨q, hq, List.mem_append_right _ ht⟩
  · rintro ⟨q, hq, ht⟩
    rcases List.mem_append.mp ht with a | a
    · have : 0 < q := Nat.pos_of_ne_zero fun e => h0 (e ▸ hq)
      rw [if_pos this, List.mem_singleton] at a
      exact .inl ⟨q, hq, a.symm⟩
    · exact .inr ⟨_, List.mem_map.mpr ⟨q, hq, rfl⟩, a⟩
theorem succL_lt {p : Plan} (h : RuleOk p) {l : List Nat} (hl : ∀ x ∈ l, x < p.length) : ∀ x ∈ succL p l, x < p.length := by
  intro x hx
  rcases List.mem_append.mp hx with a | a
  · obtain ⟨q, hq, rfl⟩ := List.mem_map.mp a
    have := hl q hq
    omega
  · obtain ⟨r, hr, ht⟩ := List.mem_flatten.mp a
    obtain ⟨q, hq, rfl⟩ := List.mem_map.mp hr
    obtain ⟨y, hy, rfl⟩ := List.mem_map.mp ht
    exact h.rg_lt (List.mem_range.mp (List.mem_filter.mp hy).1) (hl q hq)
theorem lt5 {p : Plan} (h : RuleOk p) {x : Nat} (hx : x < p.length) : x < 5 := Nat.lt_of_lt_of_le hx h.hi
theorem mem_nxt {p : Plan} (h : RuleOk p) {l kn : List Nat} (hl : ∀ x ∈ l, x < p.length) (h0 : 0 ∉ l) {t : Nat} : t ∈ nxt p l kn ↔ (∃ q ∈ l, t ∈ sc p q) ∧ t ∉ kn := by
  unfold nxt
  rw [mem_ss (fun x hx => lt5 h (succL_lt h hl x (List.mem_filter.mp hx).1)), List.mem_filter, mem_succL h0]
  exact ⟨fun a => ⟨a.1, of_decide_eq_true a.2⟩, fun a => ⟨a.1, decide_eq_true a.2⟩⟩
theorem nxt_lt {p : Plan} (h : RuleOk p) {l kn : List Nat} (hl : ∀ x ∈ l, x < p.length) : ∀ x ∈ nxt p l kn, x < p.length := by
  intro x hx
  unfold nxt at hx
  have hs := succL_lt h hl
  rw [mem_ss (fun x hx => lt5 h (hs x (List.mem_filter.mp hx).1)), List.mem_filter] at hx
  exact hs x hx.1
theorem layK_lt {p : Plan} (h : RuleOk p) {p0 : Nat} (hp : p0 < p.length) : ∀ t, (∀ x ∈ (layK p p0 t).1, x < p.length) ∧ (∀ x ∈ (layK p p0 t).2, x < p.length) ∧ (layK p p0 t).1.Nodup ∧ (layK p p0 t).2.Nodup ∧ (layK p p0 t).1.length ≤ 5
  | 0 => ⟨fun x hx => by rw [List.mem_singleton.mp hx]; exact hp, fun x hx => by rw [List.mem_singleton.mp hx]; exact hp, by simp [layK], by simp [layK], by simp [layK]⟩
  | t + 1 => by
    obtain ⟨a, b, c, d, e⟩ := layK_lt h hp t
    have n := nxt_lt h (kn := (layK p p0 t).2) a
    refine ⟨n, fun x hx => (List.mem_append.mp hx).elim (b x) (n x), ss_nodup _, List.nodup_append.mpr ⟨d, ss_nodup _, fun x hx y hy q => ?_⟩, ss_len _⟩
    subst q
    unfold nxt at hy
    rw [mem_ss (fun x hx => lt5 h (succL_lt h a x (List.mem_filter.mp hx).1)), List.mem_filter] at hy
    exact of_decide_eq_true hy.2 hx
/-- t is the first layer with place 0 -/
def IsD (p : Plan) (p0 t : Nat) : Prop := 0 ∈ (layK p p0 t).1 ∧ ∀ s, s < t → 0 ∉ (layK p p0 s).1
theorem IsD.uniq {p : Plan} {p0 t t' : Nat} (a : IsD p p0 t) (b : IsD p p0 t') : t = t' := by
  rcases Nat.lt_trichotomy t t' with h | h | h
  · exact absurd a.1 (b.2 t h)
  · exact h
  · exact absurd b.1 (a.2 t' h)
theorem least : ∀ (l : List Nat), l ≠ [] → ∃ q ∈ l, ∀ x ∈ l, q ≤ x
  | [], h => absurd rfl h
  | [a], _ => ⟨a, List.mem_singleton.mpr rfl, fun x hx => by rw [List.mem_singleton.mp hx]; exact Nat.le_refl _⟩
  | a :: b :: l, _ => by
    obtain ⟨q, hq, h⟩ := least (b :: l) (fun e => nomatch e)
    by_cases c : a ≤ q
    · refine ⟨a, List.mem_cons_self, fun x hx => ?_⟩
      rcases List.mem_cons.mp hx with rfl | hx
      · exact Nat.le_refl _
      · exact Nat.le_trans c (h x hx)
    · refine ⟨q, List.mem_cons_of_mem _ hq, fun x hx => ?_⟩
      rcases List.mem_cons.mp hx with rfl | hx
      · omega
      · exact h x hx
theorem layK_low {p : Plan} (h : RuleOk p) {p0 : Nat} (hp : p0 < p.length) : ∀ t, (∀ s, s < t → 0 ∉ (layK p p0 s).1) → ∃ q ∈ (layK p p0 t).1, (∀ x ∈ (layK p p0 t).2, q ≤ x) ∧ q + t ≤ p0
  | 0, _ => ⟨p0, List.mem_singleton.mpr rfl, fun x hx => by rw [List.mem_singleton.mp hx]; exact Nat.le_refl _, Nat.le_refl _⟩
  | t + 1, h0 => by
    obtain ⟨q, hq, hm, hl⟩ := layK_low h hp t fun s hs => h0 s (by omega)
    have hz := h0 t (by omega)
    have hq0 : 0 < q := Nat.pos_of_ne_zero fun e => hz (e ▸ hq)
    have hlt := (layK_lt h hp t).1
    have hin : q - 1 ∈ nxt p (layK p p0 t).1 (layK p p0 t).2 := by
      rw [mem_nxt h hlt hz]
      exact ⟨⟨q, hq, List.mem_append_left _ (by rw [if_pos hq0]; exact List.mem_singleton.mpr rfl)⟩, fun z => by have := hm _ z; omega⟩
    obtain ⟨r, hr, hrm⟩ := least _ (List.ne_nil_of_mem hin)
    have := hrm _ hin
    refine ⟨r, hr, fun x hx => ?_, by omega⟩
    rcases List.mem_append.mp hx with a | a
    · have := hm x a
      omega
    · exact hrm x a
theorem layK_le {p : Plan} (h : RuleOk p) {p0 : Nat} (hp : p0 < p.length) {t : Nat} (h0 : ∀ s, s < t → 0 ∉ (layK p p0 s).1) : t ≤ p0 := by
  obtain ⟨_, _, _, e⟩ := layK_low h hp t h0
  omega
end K78

/-! K78d: the searches of the program: what holds in their turns; lost ways; the greatest gap. -/
namespace K78
/-! ### a way out -/
def Path (p : Plan) (p0 q : Nat) (its : List It) : Prop := (∀ i ∈ its, i ≠ .own ∧ ItOk p i) ∧ pb p (some p0) its = some (some q)
abbrev Ws (κ : Type) := List (κ × List It)
def keys {κ : Type} (ws : Ws κ) : List κ := ws.map (·.1)
theorem keys_app {κ : Type} {ws : Ws κ} {k : κ} {v : List It} : keys (ws ++ [(k, v)]) = keys ws ++ [k] := by
  unfold keys
  rw [List.map_append]
  rfl
theorem key_of_mem {κ : Type} {ws : Ws κ} {k : κ} {v : List It} (h : (k, v) ∈ ws) : k ∈ keys ws := List.mem_map.mpr ⟨_, h, rfl⟩
/-- in round t of the search from p0: wt is walked, lt was met in this round -/
structure InvO (p : Plan) (p0 t : Nat) (wt : List Nat) (ws : Ws Nat) (lt : List Nat) : Prop where
  nd : (keys ws).Nodup
  ks : ∀ q ∈ keys ws, q < p.length
  pth : ∀ q its, (q, its) ∈ ws → Path p p0 q its
  wk : ∀ q ∈ wt, q ∈ keys ws
  lenT : ∀ q its, (q, its) ∈ ws → q ∈ wt → its.length = t
  lenL : ∀ q its, (q, its) ∈ ws → q ∈ lt → its.length = t + 1
  kl : ∀ q, q ∈ keys ws ↔ q ∈ (layK p p0 t).2 ∨ q ∈ lt
  src : ∀ q ∈ lt, q ∉ (layK p p0 t).2 ∧ ∃ r ∈ wt, q ∈ sc p r
  lnd : lt.Nodup
theorem InvO.lt_len {p : Plan} (h : RuleOk p) {p0 t : Nat} {wt : List Nat} {ws : Ws Nat} {lt : List Nat} (I : InvO p p0 t wt ws lt) : lt.length ≤ 5 ∧ ws.length ≤ 5 := by
  have h5 := h.hi
  have a := I.lnd.length_le_of_subset (l₂ := List.range p.length) fun x hx => List.mem_range.mpr (I.ks x ((I.kl x).mpr (.inr hx)))
  have b := I.nd.length_le_of_subset (l₂ := List.range p.length) fun x hx => List.mem_range.mpr (I.ks x hx)
  rw [List.length_range] at a b
  unfold keys at b
  rw [List.length_map] at b
  omega
theorem InvO.skip {p : Plan} {p0 t : Nat} {wt : List Nat} {ws : Ws Nat} {lt : List Nat} (I : InvO p p0 t wt ws lt) : InvO p p0 t wt ws lt := I
theorem InvO.path_len {p : Plan} {p0 t : Nat} {wt : List Nat} {ws : Ws Nat} {lt : List Nat} (I : InvO p p0 t wt ws lt) {q : Nat} {its : List It} (h : (q, its) ∈ ws) (hq : q ∈ wt) : its.length = t := I.lenT q its h hq
/-- a new place is met -/
theorem InvO.add {p : Plan} (h : RuleOk p) {p0 t : Nat} {wt : List Nat} {ws : Ws Nat} {lt : List Nat} (I : InvO p p0 t wt ws lt) {here q : Nat} {its : List It} {i : It}
    (hw : here ∈ wt) (hs : (here, its) ∈ ws) (hm : (i, some q) ∈ mv p here) (hn : q ∉ keys ws) : InvO p p0 t wt (ws ++ [(q, its ++ [i])]) (lt ++ [q]) := by
  obtain ⟨m1, m2, m3⟩ := mem_mv hm
  have hsc : q ∈ sc p here := mem_sc.mpr ⟨i, hm⟩
  have hk : here < p.length := I.ks here (key_of_mem hs)
  have hpt := I.pth here its hs
  have hq1 : q ∉ lt := fun z => hn ((I.kl q).mpr (.inr z))
  have hq2 : q ∉ (layK p p0 t).2 := fun z => hn ((I.kl q).mpr (.inl z))
  refine ⟨?_, ?_, ?_, ?_, ?_, ?_, ?_, ?_, ?_⟩
  · rw [keys_app]
    exact List.nodup_append.mpr ⟨I.nd, by simp, fun a ha b hb e => hn (by rw [List.mem_singleton] at hb; rw [← hb, ← e]; exact ha)⟩
  · rw [keys_app]
    intro r hr
    rcases List.mem_append.mp hr with a | a
    · exact I.ks r a
    · rw [List.mem_singleton.mp a]
      exact sc_lt h hk hsc
  · intro r js hr
    rcases List.mem_append.mp hr with a | a
    · exact I.pth r js a
    · have e := List.mem_singleton.mp a
      injection e with e1 e2
      subst e1 e2
      refine ⟨fun j hj => ?_, by rw [pb_step hpt.2]; exact m3⟩
      rcases List.mem_append.mp hj with b | b
      · exact hpt.1 j b
      · rw [List.mem_singleton.mp b]
        exact ⟨m1, m2⟩
  · intro r hr
    rw [keys_app]
    exact List.mem_append_left _ (I.wk r hr)
  · intro r js hr hrw
    rcases List.mem_append.mp hr with a | a
    · exact I.lenT r js a hrw
    · have e := List.mem_singleton.mp a
      injection e with e1 e2
      exact absurd (e1 ▸ I.wk r hrw) hn
  · intro r js hr hrl
    rcases List.mem_append.mp hr with a | a
    · rcases List.mem_append.mp hrl with b | b
      · exact I.lenL r js a b
      · exact absurd (List.mem_singleton.mp b ▸ key_of_mem a) hn
    · have e := List.mem_singleton.mp a
      injection e with e1 e2
      subst e2
      rw [List.length_append, I.lenT here its hs hw]
      rfl
  · intro r
    rw [keys_app, List.mem_append, I.kl r, List.mem_append, or_assoc]
  · intro r hr
    rcases List.mem_append.mp hr with a | a
    · exact I.src r a
    · rw [List.mem_singleton.mp a]
      exact ⟨hq2, here, hw, hsc⟩
  · exact List.nodup_append.mpr ⟨I.lnd, by simp, fun a ha b hb e => hq1 (by rw [List.mem_singleton] at hb; rw [← hb, ← e]; exact ha)⟩
/-- at the head of round t -/
structure TopO (p : Plan) (p0 t : Nat) (wt : List Nat) (ws : Ws Nat) : Prop where
  inv : InvO p p0 t wt ws []
  eqw : ∀ q, q ∈ wt ↔ q ∈ (layK p p0 t).1
  no : ∀ s, s < t → 0 ∉ (layK p p0 s).1
  wnd : wt.Nodup
theorem topO_0 {p : Plan} {p0 : Nat} (hp : p0 < p.length) : TopO p p0 0 [p0] [(p0, [])] where
  inv := {
    nd := by simp [keys]
    ks := fun q hq => by
      have : q = p0 := List.mem_singleton.mp hq
      rw [this]
      exact hp
    pth := fun q its h => by
      have e := List.mem_singleton.mp h
      injection e with e1 e2
      subst e1 e2
      exact ⟨(fun _ z => nomatch z), rfl⟩
    wk := fun q hq => hq
    lenT := fun q its h _ => by
      have e := List.mem_singleton.mp h
      injection e with e1 e2
      rw [e2]
      rfl
    lenL := fun _ _ _ z => nomatch z
    kl := fun q => by
      show q ∈ [p0] ↔ q ∈ [p0] ∨ q ∈ []
      simp
    src := fun _ z => nomatch z
    lnd := List.nodup_nil }
  eqw := fun q => Iff.rfl
  no := fun s hs => absurd hs (Nat.not_lt_zero s)
  wnd := by simp
/-- the round is over: place 0 was not in it -/
theorem TopO.next {p : Plan} (h : RuleOk p) {p0 t : Nat} (hp : p0 < p.length) {wt lt : List Nat} {ws0 ws : Ws Nat} (T : TopO p p0 t wt ws0) (I : InvO p p0 t wt ws lt) (h0 : 0 ∉ wt)
    (hd : ∀ r ∈ wt, ∀ q ∈ sc p r, q ∈ keys ws) : TopO p p0 (t + 1) lt ws := by
  have hl0 : 0 ∉ (layK p p0 t).1 := fun z => h0 ((T.eqw 0).mpr z)
  have hlt := (layK_lt h hp t).1
  have heq : ∀ q, q ∈ lt ↔ q ∈ (layK p p0 (t + 1)).1 := fun q => by
    show q ∈ lt ↔ q ∈ nxt p _ _
    rw [mem_nxt h hlt hl0]
    constructor
    · intro hq
      obtain ⟨a, r, hr, b⟩ := I.src q hq
      exact ⟨⟨r, (T.eqw r).mp hr, b⟩, a⟩
    · rintro ⟨⟨r, hr, b⟩, a⟩
      rcases (I.kl q).mp (hd r ((T.eqw r).mpr hr) q b) with c | c
      · exact absurd c a
      · exact c
  refine ⟨⟨I.nd, I.ks, I.pth, fun q hq => (I.kl q).mpr (.inr hq), I.lenL, (fun _ _ _ z => nomatch z), fun q => ?_, (fun _ z => nomatch z), List.nodup_nil⟩, heq, fun s hs => ?_, I.lnd⟩
  · have e : q ∈ (layK p p0 (t + 1)).2 ↔ q ∈ (layK p p0 t).2 ∨ q ∈ (layK p p0 (t + 1)).1 := List.mem_append
    rw [I.kl q, e, ← heq q]
    simp
  · by_cases c : s = t
    · rw [c]
      exact hl0
    · exact T.no s (by omega)
/-- what the search hands back -/
structure OutOk (p : Plan) (p0 : Nat) (its : List It) : Prop where
  ok : ∀ i ∈ its, i ≠ .own ∧ ItOk p i
  out : pb p (some p0) its = some none
  len : ∃ t, IsD p p0 t ∧ its.length = t + 1
theorem TopO.out {p : Plan} {p0 t : Nat} {wt lt : List Nat} {ws0 ws : Ws Nat} (T : TopO p p0 t wt ws0) (I : InvO p p0 t wt ws lt) {here : Nat} {i : It} {its : List It} (hw : here ∈ wt) (hs : (here, its) ∈ ws)
    (hm : (i, none) ∈ mv p here) : OutOk p p0 (its ++ [i]) := by
  obtain ⟨m1, m2, m3⟩ := mem_mv hm
  have hpt := I.pth here its hs
  have e0 : here = 0 := by
    unfold mv at hm
    rcases List.mem_cons.mp hm with a | a
    · injection a with a1 a2
      by_cases c : 0 < here
      · rw [if_pos c] at a2
        cases a2
      · omega
    · obtain ⟨x, _, e⟩ := List.mem_map.mp a
      injection e with _ e
      cases e
  subst e0
  refine ⟨fun j hj => ?_, by rw [pb_step hpt.2]; exact m3, t, ⟨(T.eqw 0).mp hw, T.no⟩, by rw [List.length_append, I.lenT 0 its hs hw]; rfl⟩
  rcases List.mem_append.mp hj with b | b
  · exact hpt.1 j b
  · rw [List.mem_singleton.mp b]
    exact ⟨m1, m2⟩
theorem OutOk.noOwn {p : Plan} {p0 : Nat} {its : List It} (o : OutOk p p0 its) : noOwn its = true := by
  unfold K78.noOwn
  rw [List.all_eq_true]
  exact fun i hi => decide_eq_true (o.ok i hi).1
theorem OutOk.wk {p : Plan} (h : RuleOk p) {p0 : Nat} (hp : p0 < p.length) {its : List It} (o : OutOk p p0 its) : K78.wk p none p0 0 its = true := by
  rw [wk_none h its p0 0 hp fun i hi => (o.ok i hi).2, o.noOwn, o.out]
  simp

/-! ### lost ways -/
inductive RS (p : Plan) (g : Nat) : Nat → Nat → Prop
  | start : RS p g (p.length - 1) 0
  | own {q m : Nat} : RS p g q m → RS p g (rg p q q) 0
  | oth {q m t : Nat} : RS p g q m → m < g → t ∈ sc p q → RS p g t (m + 1)
def LostG (p : Plan) (g : Nat) : Prop := ∃ m, RS p g 0 m ∧ m < g
theorem RS.lt {p : Plan} (h : RuleOk p) {g q m : Nat} (r : RS p g q m) : q < p.length ∧ m ≤ g := by
  induction r with
  | start => exact ⟨by have := h.lo; omega, Nat.zero_le _⟩
  | own _ ih => exact ⟨h.rg_lt ih.1 ih.1, Nat.zero_le _⟩
  | oth _ hm ht ih => exact ⟨sc_lt h ih.1 ht, hm⟩
theorem RS.mono {p : Plan} {g g' q m : Nat} (hg : g ≤ g') (r : RS p g q m) : RS p g' q m := by
  induction r with
  | start => exact .start
  | own _ ih => exact .own ih
  | oth _ hm ht ih => exact .oth ih (by omega) ht
theorem LostG.mono {p : Plan} {g g' : Nat} (hg : g ≤ g') : LostG p g → LostG p g' := fun ⟨m, r, hm⟩ => ⟨m, r.mono hg, by omega⟩
theorem not_lost_0 {p : Plan} : ¬ LostG p 0 := fun ⟨m, _, hm⟩ => Nat.not_lt_zero m hm
theorem sc_down {p : Plan} {q : Nat} (hq : 0 < q) : q - 1 ∈ sc p q := List.mem_append_left _ (by rw [if_pos hq]; exact List.mem_singleton.mpr rfl)
theorem lost_len {p : Plan} (h : RuleOk p) : LostG p p.length := by
  have h2 := h.lo
  have all : ∀ j, j < p.length → RS p p.length (p.length - 1 - j) j := by
    intro j
    induction j with
    | zero => exact fun _ => .start
    | succ j ih =>
      intro hj
      have := RS.oth (ih (by omega)) (show j < p.length by omega) (sc_down (p := p) (q := p.length - 1 - j) (by omega))
      rw [show p.length - 1 - (j + 1) = p.length - 1 - j - 1 by omega]
      exact this
  refine ⟨p.length - 1, ?_, by omega⟩
  have := all (p.length - 1) (by omega)
  rw [show p.length - 1 - (p.length - 1) = 0 by omega] at this
  exact this
/-- the greatest gap that keeps -/
structure Best (p : Plan) (b : Nat) : Prop where
  no : ¬ LostG p b
  yes : LostG p (b + 1)
theorem Best.iff {p : Plan} {b g : Nat} (B : Best p b) : LostG p g ↔ b < g := by
  constructor
  · intro h
    by_cases c : b < g
    · exact c
    · exact absurd (h.mono (by omega)) B.no
  · intro h
    exact B.yes.mono h
theorem Best.lt {p : Plan} (h : RuleOk p) {b : Nat} (B : Best p b) : b < p.length := B.iff.mp (lost_len h)
def ValidLost (p : Plan) (g : Nat) (its : List It) : Prop := (∀ i ∈ its, ItOk p i) ∧ pb p (some (p.length - 1)) its = some none ∧ (mo its).2 ≤ g
theorem ValidLost.wk {p : Plan} (h : RuleOk p) {g : Nat} {its : List It} (v : ValidLost p g its) : K78.wk p (some g) (p.length - 1) 0 its = true := by
  rw [wk_some h its (p.length - 1) 0 0 (by have := h.lo; omega) v.1 (Nat.zero_le _), v.2.1]
  have : (its.foldl cnt (0, 0)).2 ≤ g := v.2.2
  simp [this]
def PathL (p : Plan) (g q m : Nat) (its : List It) : Prop := (∀ i ∈ its, ItOk p i) ∧ pb p (some (p.length - 1)) its = some (some q) ∧ (mo its).1 = m ∧ (mo its).2 ≤ g
theorem mo_snoc {its : List It} {i : It} : mo (its ++ [i]) = cnt (mo its) i := by
  unfold mo
  rw [List.foldl_append]
  rfl
abbrev Ks := Nat × Nat
/-- what is done with a state -/
def Cl (p : Plan) (g : Nat) (ks : List Ks) (s : Ks) : Prop := (rg p s.1 s.1, 0) ∈ ks ∧ (s.2 < g → s.1 ≠ 0 ∧ ∀ t ∈ sc p s.1, (t, s.2 + 1) ∈ ks)
structure InvL (p : Plan) (g : Nat) (wt : List Ks) (ws : Ws Ks) (lt : List Ks) : Prop where
  nd : (keys ws).Nodup
  rs : ∀ s ∈ keys ws, RS p g s.1 s.2
  pth : ∀ s its, (s, its) ∈ ws → PathL p g s.1 s.2 its
  wk : ∀ s ∈ wt, s ∈ keys ws
  lk : ∀ s ∈ lt, s ∈ keys ws
  lnd : lt.Nodup
  st : (p.length - 1, 0) ∈ keys ws
  cl : ∀ s ∈ keys ws, s ∉ wt → s ∉ lt → Cl p g (keys ws) s
theorem nodup_pairs {k g : Nat} {l : List Ks} (nd : l.Nodup) (hl : ∀ s ∈ l, s.1 < k ∧ s.2 ≤ g) : l.length ≤ k * (g + 1) := by
  have key := (show (l.map fun s => s.1 * (g + 1) + s.2).Nodup by
    unfold List.Nodup at nd ⊢
    rw [List.pairwise_map]
    refine List.Pairwise.imp_of_mem (fun {a b} ha hb hab e => hab ?_) nd
    obtain ⟨a1, a2⟩ := hl a ha
    obtain ⟨b1, b2⟩ := hl b hb
    have e1 : a.2 = b.2 := by
      have := congrArg (· % (g + 1)) e
      simp only [Nat.mul_add_mod_self_right] at this
      rwa [Nat.mod_eq_of_lt (by omega), Nat.mod_eq_of_lt (by omega)] at this
    have e2 : a.1 = b.1 := by
      rw [e1] at e
      exact Nat.eq_of_mul_eq_mul_right (show 0 < g + 1 by omega) (by omega)
    exact Prod.ext e2 e1).length_le_of_subset (l₂ := List.range (k * (g + 1))) (by
      intro x hx
      obtain ⟨s, hs, rfl⟩ := List.mem_map.mp hx
      obtain ⟨a1, a2⟩ := hl s hs
      refine List.mem_range.mpr ?_
      have : (s.1 + 1) * (g + 1) ≤ k * (g + 1) := Nat.mul_le_mul_right _ a1
      rw [Nat.add_mul] at this
      omega)
  rwa [List.length_map, List.length_range] at key
theorem InvL.len {p : Plan} (h : RuleOk p) {g : Nat} {wt lt : List Ks} {ws : Ws Ks} (I : InvL p g wt ws lt) : ws.length ≤ p.length * (g + 1) ∧ lt.length ≤ ws.length := by
  have a := nodup_pairs (k := p.length) (g := g) I.nd fun s hs => (I.rs s hs).lt h
  have b := I.lnd.length_le_of_subset (l₂ := keys ws) I.lk
  unfold keys at a b
  rw [List.length_map] at a b
  exact ⟨a, b⟩
theorem invL_0 {p : Plan} {g : Nat} : InvL p g [(p.length - 1, 0)] [((p.length - 1, 0), [])] [] where
  nd := by simp [keys]
  rs := fun s hs => by
    have e : s = (p.length - 1, 0) := List.mem_singleton.mp hs
    rw [e]
    exact .start
  pth := fun s its h => by
    have e := List.mem_singleton.mp h
    injection e with e1 e2
    subst e1 e2
    exact ⟨(fun _ z => nomatch z), rfl, rfl, Nat.zero_le _⟩
  wk := fun s hs => hs
  lk := fun _ z => nomatch z
  lnd := List.nodup_nil
  st := List.mem_singleton.mpr rfl
  cl := fun s hs hn _ => absurd hs hn
theorem Cl.grow {p : Plan} {g : Nat} {ks ks' : List Ks} {s : Ks} (h : ∀ x ∈ ks, x ∈ ks') (c : Cl p g ks s) : Cl p g ks' s := ⟨h _ c.1, fun hm => ⟨(c.2 hm).1, fun t ht => h _ ((c.2 hm).2 t ht)⟩⟩
/-- the items that are tried at a state, with the states behind them -/
def found (p : Plan) (g : Nat) (s : Ks) : List (It × Option Nat × Nat) := (.own, some (rg p s.1 s.1), 0) :: if s.2 < g then (mv p s.1).map fun x => (x.1, x.2, s.2 + 1) else []
theorem mem_found {p : Plan} {g : Nat} {s : Ks} {i : It} {t : Option Nat} {m : Nat} (h : (i, t, m) ∈ found p g s) :
    (i = .own ∧ t = some (rg p s.1 s.1) ∧ m = 0) ∨ (s.2 < g ∧ (i, t) ∈ mv p s.1 ∧ m = s.2 + 1) := by
  unfold found at h
  rcases List.mem_cons.mp h with a | a
  · injection a with a1 a2
    injection a2 with a2 a3
    exact .inl ⟨a1, a2, a3⟩
  · by_cases c : s.2 < g
    · rw [if_pos c] at a
      obtain ⟨x, hx, e⟩ := List.mem_map.mp a
      injection e with e1 e2
      injection e2 with e2 e3
      subst e1 e2 e3
      exact .inr ⟨c, hx, rfl⟩
    · rw [if_neg c] at a
      cases a
theorem found_step {p : Plan} {g : Nat} {s : Ks} {i : It} {t : Option Nat} {m : Nat} {its : List It} (h : (i, t, m) ∈ found p g s) (hp : PathL p g s.1 s.2 its) :
    (∀ j ∈ its ++ [i], ItOk p j) ∧ pb p (some (p.length - 1)) (its ++ [i]) = some t ∧ (mo (its ++ [i])).1 = m ∧ (mo (its ++ [i])).2 ≤ g := by
  obtain ⟨p1, p2, p3, p4⟩ := hp
  rw [mo_snoc, pb_step p2]
  have ok : ItOk p i → ∀ j ∈ its ++ [i], ItOk p j := fun hi j hj => (List.mem_append.mp hj).elim (p1 j) fun z => by rw [List.mem_singleton.mp z]; exact hi
  rcases mem_found h with ⟨rfl, rfl, rfl⟩ | ⟨c, a, rfl⟩
  · exact ⟨ok (fun _ z => nomatch z), rfl, rfl, p4⟩
  · obtain ⟨m1, m2, m3⟩ := mem_mv a
    refine ⟨ok m2, m3, ?_, ?_⟩
    · unfold cnt
      rw [if_neg m1, p3]
    · unfold cnt
      rw [if_neg m1, p3]
      show max (mo its).2 (s.2 + 1) ≤ g
      omega
theorem InvL.add {p : Plan} (h : RuleOk p) {g : Nat} {wt lt : List Ks} {ws : Ws Ks} (I : InvL p g wt ws lt) {s : Ks} {its : List It} {i : It} {q m : Nat}
    (hs : (s, its) ∈ ws) (hf : (i, some q, m) ∈ found p g s) (hn : (q, m) ∉ keys ws) : InvL p g wt (ws ++ [((q, m), its ++ [i])]) (lt ++ [(q, m)]) := by
  have hrs := I.rs s (key_of_mem hs)
  refine ⟨?_, ?_, ?_, ?_, ?_, ?_, ?_, ?_⟩
  · rw [keys_app]
    exact List.nodup_append.mpr ⟨I.nd, by simp, fun a ha b hb e => hn (by rw [List.mem_singleton] at hb; rw [← hb, ← e]; exact ha)⟩
  · rw [keys_app]
    intro r hr
    rcases List.mem_append.mp hr with a | a
    · exact I.rs r a
    · rw [List.mem_singleton.mp a]
      rcases mem_found hf with ⟨_, e, rfl⟩ | ⟨c, a', rfl⟩
      · injection e with e
        rw [e]
        exact .own hrs
      · exact .oth hrs c (mem_sc.mpr ⟨i, a'⟩)
  · intro r js hr
    rcases List.mem_append.mp hr with a | a
    · exact I.pth r js a
    · have e := List.mem_singleton.mp a
      injection e with e1 e2
      subst e1 e2
      exact found_step hf (I.pth s its hs)
  · intro r hr
    rw [keys_app]
    exact List.mem_append_left _ (I.wk r hr)
  · intro r hr
    rw [keys_app]
    rcases List.mem_append.mp hr with a | a
    · exact List.mem_append_left _ (I.lk r a)
    · exact List.mem_append_right _ a
  · exact List.nodup_append.mpr ⟨I.lnd, by simp, fun a ha b hb e => hn (by rw [List.mem_singleton] at hb; rw [← hb, ← e]; exact I.lk a ha)⟩
  · rw [keys_app]
    exact List.mem_append_left _ I.st
  · intro r hr h1 h2
    rw [keys_app] at hr ⊢
    rcases List.mem_append.mp hr with a | a
    · exact (I.cl r a h1 fun z => h2 (List.mem_append_left _ z)).grow fun x hx => List.mem_append_left _ hx
    · exact absurd (List.mem_append_right _ a) h2
/-- the next round's invariant -/
theorem InvL.next {p : Plan} {g : Nat} {wt lt : List Ks} {ws : Ws Ks} (I : InvL p g wt ws lt) (hd : ∀ s ∈ wt, Cl p g (keys ws) s) : InvL p g lt ws [] where
  nd := I.nd
  rs := I.rs
  pth := I.pth
  wk := I.lk
  lk := fun _ z => nomatch z
  lnd := List.nodup_nil
  st := I.st
  cl := fun s hs h1 _ => by
    by_cases c : s ∈ wt
    · exact hd s c
    · exact I.cl s hs c h1
theorem InvL.not_lost {p : Plan} {g : Nat} {ws : Ws Ks} (I : InvL p g [] ws []) : ¬ LostG p g := by
  have all : ∀ q m, RS p g q m → (q, m) ∈ keys ws := by
    intro q m r
    induction r with
    | start => exact I.st
    | own _ ih => exact (I.cl _ ih (fun z => nomatch z) (fun z => nomatch z)).1
    | oth _ hm ht ih => exact ((I.cl _ ih (fun z => nomatch z) (fun z => nomatch z)).2 hm).2 _ ht
  rintro ⟨m, r, hm⟩
  exact ((I.cl _ (all 0 m r) (fun z => nomatch z) (fun z => nomatch z)).2 hm).1 rfl
theorem InvL.out {p : Plan} {g : Nat} {wt lt : List Ks} {ws : Ws Ks} (I : InvL p g wt ws lt) {s : Ks} {its : List It} {i : It} {m : Nat} (hs : (s, its) ∈ ws) (hf : (i, none, m) ∈ found p g s) :
    LostG p g ∧ ValidLost p g (its ++ [i]) := by
  have hrs := I.rs s (key_of_mem hs)
  obtain ⟨a, b, c, d⟩ := found_step hf (I.pth s its hs)
  refine ⟨?_, a, b, d⟩
  rcases mem_found hf with ⟨_, e, _⟩ | ⟨c', a, rfl⟩
  · cases e
  · have e0 : s.1 = 0 := by
      unfold mv at a
      rcases List.mem_cons.mp a with z | z
      · injection z with _ z
        by_cases q : 0 < s.1
        · rw [if_pos q] at z
          cases z
        · omega
      · obtain ⟨x, _, e⟩ := List.mem_map.mp z
        injection e with _ e
        cases e
    exact ⟨s.2, e0 ▸ hrs, c'⟩
/-- all that is tried at a state was met, and none of it goes: it is done -/
theorem cl_of {p : Plan} {g : Nat} {ks : List Ks} {s : Ks} (h : ∀ i t m, (i, t, m) ∈ found p g s → ∃ q, t = some q ∧ (q, m) ∈ ks) : Cl p g ks s := by
  refine ⟨?_, fun hm => ⟨fun e => ?_, fun t ht => ?_⟩⟩
  · obtain ⟨q, e, hq⟩ := h .own _ 0 List.mem_cons_self
    injection e with e
    rw [e]
    exact hq
  · have : (It.miss, (none : Option Nat), s.2 + 1) ∈ found p g s := by
      unfold found
      rw [if_pos hm]
      refine List.mem_cons_of_mem _ (List.mem_map.mpr ⟨(.miss, none), ?_, rfl⟩)
      unfold mv
      rw [e]
      exact List.mem_cons_self
    obtain ⟨q, e, _⟩ := h _ _ _ this
    cases e
  · obtain ⟨i, hi⟩ := mem_sc.mp ht
    have : (i, some t, s.2 + 1) ∈ found p g s := by
      unfold found
      rw [if_pos hm]
      exact List.mem_cons_of_mem _ (List.mem_map.mpr ⟨(i, some t), hi, rfl⟩)
    obtain ⟨q, e, hq⟩ := h _ _ _ this
    injection e with e
    rw [e]
    exact hq

/-! ### the law's own search for lost ways -/
def layS (p : Plan) (s : Nat) : Nat → List Nat
  | 0 => [s]
  | j + 1 => ss (succL p (layS p s j))
def endS (p : Plan) (s : Nat) : Nat → List Nat
  | 0 => [s]
  | j + 1 => ss (endS p s j ++ layS p s (j + 1))
theorem layS_lt {p : Plan} (h : RuleOk p) {s : Nat} (hs : s < p.length) : ∀ j, ∀ x ∈ layS p s j, x < p.length
  | 0, x, hx => by rw [List.mem_singleton.mp hx]; exact hs
  | j + 1, x, hx => by
    have hl := succL_lt h (layS_lt h hs j)
    have hx' : x ∈ ss (succL p (layS p s j)) := hx
    rw [mem_ss (fun y hy => lt5 h (hl y hy))] at hx'
    exact hl x hx'
theorem layS_len {p : Plan} {s : Nat} : ∀ j, (layS p s j).length ≤ 5
  | 0 => by simp [layS]
  | j + 1 => ss_len _
theorem endS_len {p : Plan} {s : Nat} : ∀ j, (endS p s j).length ≤ 5
  | 0 => by simp [endS]
  | j + 1 => ss_len _
theorem endS_lt {p : Plan} (h : RuleOk p) {s : Nat} (hs : s < p.length) : ∀ j, ∀ x ∈ endS p s j, x < p.length
  | 0, x, hx => by rw [List.mem_singleton.mp hx]; exact hs
  | j + 1, x, hx => by
    have hl : ∀ y ∈ endS p s j ++ layS p s (j + 1), y < p.length := fun y hy => (List.mem_append.mp hy).elim (endS_lt h hs j y) (layS_lt h hs (j + 1) y)
    have hx' : x ∈ ss (endS p s j ++ layS p s (j + 1)) := hx
    rw [mem_ss (fun y hy => lt5 h (hl y hy))] at hx'
    exact hl x hx'
theorem mem_endS {p : Plan} (h : RuleOk p) {s : Nat} (hs : s < p.length) : ∀ j x, x ∈ endS p s j ↔ ∃ i, i ≤ j ∧ x ∈ layS p s i
  | 0, x => ⟨fun hx => ⟨0, Nat.le_refl _, hx⟩, fun ⟨i, hi, hx⟩ => by
    have : i = 0 := by omega
    subst this
    exact hx⟩
  | j + 1, x => by
    have hl : ∀ y ∈ endS p s j ++ layS p s (j + 1), y < p.length := fun y hy => (List.mem_append.mp hy).elim (endS_lt h hs j y) (layS_lt h hs (j + 1) y)
    show x ∈ ss (endS p s j ++ layS p s (j + 1)) ↔ _
    rw [mem_ss (fun y hy => lt5 h (hl y hy)), List.mem_append, mem_endS h hs j x]
    constructor
    · rintro (⟨i, hi, hx⟩ | hx)
      · exact ⟨i, by omega, hx⟩
      · exact ⟨j + 1, Nat.le_refl _, hx⟩
    · rintro ⟨i, hi, hx⟩
      by_cases c : i = j + 1
      · rw [c] at hx
        exact .inr hx
      · exact .inl ⟨i, by omega, hx⟩
theorem layS_rs {p : Plan} (h : RuleOk p) {g s : Nat} (hs : RS p g s 0) : ∀ j, j ≤ g → (∀ i, i < j → 0 ∉ layS p s i) → ∀ x ∈ layS p s j, RS p g x j
  | 0, _, _, x, hx => by rw [List.mem_singleton.mp hx]; exact hs
  | j + 1, hj, h0, x, hx => by
    have hsl := (hs.lt h).1
    have hl := succL_lt h (layS_lt h hsl j)
    have hx' : x ∈ ss (succL p (layS p s j)) := hx
    rw [mem_ss (fun y hy => lt5 h (hl y hy)), mem_succL (h0 j (by omega))] at hx'
    obtain ⟨q, hq, ht⟩ := hx'
    exact .oth (layS_rs h hs j (by omega) (fun i hi => h0 i (by omega)) q hq) (by omega) ht
/-- the starts that the law has, the first at of them done -/
structure InvS (p : Plan) (g : Nat) (sts : List Nat) (at' : Nat) : Prop where
  nd : sts.Nodup
  rs : ∀ s ∈ sts, RS p g s 0
  st : p.length - 1 ∈ sts
  le : at' ≤ sts.length
  cl : ∀ i s, i < at' → sts[i]? = some s → (∀ j, j < g → 0 ∉ layS p s j) ∧ ∀ e ∈ endS p s g, rg p e e ∈ sts
theorem InvS.len {p : Plan} (h : RuleOk p) {g : Nat} {sts : List Nat} {a : Nat} (I : InvS p g sts a) : sts.length ≤ 5 := by
  have := I.nd.length_le_of_subset (l₂ := List.range p.length) fun x hx => List.mem_range.mpr ((I.rs x hx).lt h).1
  rw [List.length_range] at this
  exact Nat.le_trans this h.hi
theorem invS_0 {p : Plan} {g : Nat} : InvS p g [p.length - 1] 0 where
  nd := by simp
  rs := fun s hs => by rw [List.mem_singleton.mp hs]; exact .start
  st := List.mem_singleton.mpr rfl
  le := Nat.zero_le _
  cl := fun i s hi => absurd hi (Nat.not_lt_zero i)
theorem InvS.lost {p : Plan} (h : RuleOk p) {g : Nat} {sts : List Nat} {a s j : Nat} (I : InvS p g sts a) (hs : s ∈ sts) (hj : j < g) (h0 : ∀ i, i < j → 0 ∉ layS p s i) (hz : 0 ∈ layS p s j) : LostG p g :=
  ⟨j, layS_rs h (I.rs s hs) j (by omega) h0 0 hz, hj⟩
/-- a start's end gives a start -/
theorem InvS.grow {p : Plan} (h : RuleOk p) {g : Nat} {sts : List Nat} {a s e : Nat} (I : InvS p g sts a) (hs : s ∈ sts) (h0 : ∀ j, j < g → 0 ∉ layS p s j) (he : e ∈ endS p s g) (hn : rg p e e ∉ sts) : InvS p g (sts ++ [rg p e e]) a where
  nd := List.nodup_append.mpr ⟨I.nd, by simp, fun x hx b hb q => hn (by rw [List.mem_singleton] at hb; rw [← hb, ← q]; exact hx)⟩
  rs := fun x hx => by
    rcases List.mem_append.mp hx with z | z
    · exact I.rs x z
    · rw [List.mem_singleton.mp z]
      have hsl := ((I.rs s hs).lt h).1
      obtain ⟨i, hi, hx⟩ := (mem_endS h hsl g e).mp he
      exact .own (layS_rs h (I.rs s hs) i hi (fun j hj => h0 j (by omega)) e hx)
  st := List.mem_append_left _ I.st
  le := Nat.le_trans I.le (by rw [List.length_append]; exact Nat.le_add_right _ _)
  cl := fun i x hi hx => by
    have c : i < sts.length := Nat.lt_of_lt_of_le hi I.le
    rw [List.getElem?_append_left c] at hx
    obtain ⟨q1, q2⟩ := I.cl i x hi hx
    exact ⟨q1, fun e he => List.mem_append_left _ (q2 e he)⟩
theorem InvS.step {p : Plan} {g : Nat} {sts : List Nat} {a s : Nat} (I : InvS p g sts a) (hs : sts[a]? = some s) (h0 : ∀ j, j < g → 0 ∉ layS p s j) (he : ∀ e ∈ endS p s g, rg p e e ∈ sts) : InvS p g sts (a + 1) where
  nd := I.nd
  rs := I.rs
  st := I.st
  le := by
    obtain ⟨h, _⟩ := List.getElem?_eq_some_iff.mp hs
    exact h
  cl := fun i x hi hx => by
    by_cases c : i = a
    · subst c
      rw [hs] at hx
      have e := Option.some.inj hx
      subst e
      exact ⟨h0, he⟩
    · exact I.cl i x (by omega) hx
theorem InvS.not_lost {p : Plan} (h : RuleOk p) {g : Nat} {sts : List Nat} {a : Nat} (I : InvS p g sts a) (ha : sts.length ≤ a) : ¬ LostG p g := by
  have hcl : ∀ s ∈ sts, (∀ j, j < g → 0 ∉ layS p s j) ∧ ∀ e ∈ endS p s g, rg p e e ∈ sts := fun s hs => by
    obtain ⟨i, hi, e⟩ := List.mem_iff_getElem.mp hs
    exact I.cl i s (by omega) (by rw [List.getElem?_eq_getElem hi, e])
  have hlt : ∀ s ∈ sts, s < p.length := fun s hs => ((I.rs s hs).lt h).1
  have all : ∀ q m, RS p g q m → ∃ s ∈ sts, q ∈ layS p s m ∧ m ≤ g := by
    intro q m r
    induction r with
    | start => exact ⟨_, I.st, List.mem_singleton.mpr rfl, Nat.zero_le _⟩
    | own _ ih =>
      obtain ⟨s, hs, hq, hm⟩ := ih
      exact ⟨_, (hcl s hs).2 _ ((mem_endS h (hlt s hs) g _).mpr ⟨_, hm, hq⟩), List.mem_singleton.mpr rfl, Nat.zero_le _⟩
    | @oth q m t _ hm ht ih =>
      obtain ⟨s, hs, hq, _⟩ := ih
      refine ⟨s, hs, ?_, hm⟩
      have hl := succL_lt h (layS_lt h (hlt s hs) m)
      show t ∈ ss (succL p (layS p s m))
      rw [mem_ss (fun y hy => lt5 h (hl y hy)), mem_succL ((hcl s hs).1 m hm)]
      exact ⟨q, hq, ht⟩
  rintro ⟨m, r, hm⟩
  obtain ⟨s, hs, hq, _⟩ := all 0 m r
  exact (hcl s hs).1 m hm hq
/-- the gaps that lose, as the law lists them -/
theorem best_filter {p : Plan} (h : RuleOk p) {b : Nat} (B : Best p b) (f : Nat → Bool) (hf : ∀ g, f g = true ↔ LostG p g) : (List.range (p.length + 1)).filter f = (List.range (p.length - b)).map (fun i => b + 1 + i) := by
  have hb := B.lt h
  have h5 := h.hi
  have e : (List.range (p.length + 1)).filter f = (List.range (p.length + 1)).filter (fun g => decide (b < g)) := by
    refine List.filter_congr fun g _ => ?_
    have := (hf g).trans B.iff
    cases q : f g with
    | true => exact (decide_eq_true (this.mp q)).symm
    | false => exact (decide_eq_false fun z => by rw [this.mpr z] at q; cases q).symm
  rw [e]
  have all : ∀ k : Fin 6, ∀ b : Fin 6, b.1 < k.1 → (List.range (k.1 + 1)).filter (fun g => decide (b.1 < g)) = (List.range (k.1 - b.1)).map (fun i => b.1 + 1 + i) := by decide +kernel
  exact all ⟨p.length, by omega⟩ ⟨b, by omega⟩ hb
end K78

/-! K78r1: set(xs) of a list of whole numbers. -/
namespace K78
open PySem PySem.Spec PyProof.Rows L2
abbrev freshO (w : World) : Obj := { cls := .type "set", dict := none, data := .set #[] 0 (.fresh 0 0 (!w.params.followText "set-order")) }
section
variable {P : Program} {w : World} {A : Around} {E : Value → Shared → Prop} {s : Shared}
set_option maxHeartbeats 3200000 in
theorem set_of_ints {l : Addr} {xs : Array Value} (ns : List Int) {Q : Value → Shared → Prop} (calm : A.handled = none) (hl : s.heap.IsList l xs) (hx : IntsAre xs.toList ns) (hb : ns.length + 1 < scanBound)
    (k : ∀ (h' : Heap) (tk c : Nat), SetR w h' s.heap.objs.size (fun j => decide (j ∈ ns)) c → c ≤ ns.length → (∀ b o, s.heap.get? b = some o → h'.get? b = some o) → Q (.ref s.heap.objs.size) { s with heap := h', toks := tk }) :
    wpAny (model P w) A (call (.type "set") [.ref l]) Q E s := by
  have hsz : xs.size = ns.length := by
    have z := IntsAre.length hx
    rwa [Array.length_toList] at z
  have f1 := F.called_set.mro
  obtain ⟨cc, tl, f1⟩ := f1
  have f2 := F.called_set.made
  have f3 := F.called_set.sub
  refine wpAny_call (codeAny_of_tree ?_)
  show wpAny _ _ (callAny (.type "set") _) _ _ _
  refine wpAny_pure ⟨Code.quiet_builtin _ (by decide +kernel), codeAny_builtin F.entry_type_call ?_⟩
  rw [Around.under_plain (weight_type_call_type "set" [.ref l] []) rfl]
  have f4 := F.called_set.notType
  have f5 := F.called_set.canCreate
  have f6 := F.typeCall_set_1 (.ref l)
  repeat (any_goals (first | assumption | wp_step))
  refine codeAny_mono (L2.code_set_led1 (.ref l) (E := E) (Q₁ := fun ob t => ob = .ref s.heap.objs.size ∧ t = { s with heap := s.heap.push (freshO w) }) ⟨rfl, rfl⟩) fun r t hr => ?_
  cases r with
  | error e => exact hr
  | ok fl =>
    cases fl with
    | ret ob =>
      obtain ⟨rfl, rfl⟩ := hr
      have g1 : (s.heap.push (freshO w)).get? s.heap.objs.size = some (freshO w) := Heap.get?_push_size _ rfl
      have g2 : Shared.TypeIs { s with heap := s.heap.push (freshO w) } (.ref s.heap.objs.size) "set" := ⟨_, g1, rfl⟩
      have g3 := F.called_set.init.lookup
      have g4 := F.called_set.init.bind (.ref s.heap.objs.size)
      repeat (any_goals (first | assumption | wp_step))
      refine codeAny_mono (codeAny_call_builtin (R := wants (fun r t => r = .none ∧ ∃ h' tk c, t = { s with heap := h', toks := tk } ∧ SetR w h' s.heap.objs.size (fun j => decide (j ∈ ns)) c ∧ c ≤ ns.length ∧
          (∀ b o, s.heap.get? b = some o → h'.get? b = some o)) E) F.called_set.init.plain F.entry_set_init (check_set_init_1 g2 ?_)) fun r2 t2 hr2 => ?_
      · obtain ⟨ol, ho, hc, nl, hd⟩ := hl
        obtain ⟨oc, od, odat, osl⟩ := ol
        simp only at hc hd
        subst hc; subst hd
        have ho' : (s.heap.push (freshO w)).get? l = some { cls := .type "list", dict := od, data := .seq xs nl, slots := osl } := Heap.get?_push_of_some _ ho
        have q1 := F.sub_list_set
        have q2 := F.sub_list_frozenset
        have q3 : (Value.type "list" == Value.type "dict") = false := by decide
        have hl1 : (s.heap.push (freshO w)).IsList l xs := ⟨_, ho', rfl, nl, rfl⟩
        unfold Builtin.«set.__init__» noKeywords Builtin.Frozenset.updateFrom
        generalize hPI : pyIter = PI
        wp_walk
        subst hPI
        refine wpAny_pyIter_list hl1 ?_
        refine wpAny_bind (wpAny_runValue ?_)
        have hlS : l < s.heap.objs.size := Heap.lt_size ho
        have c3 : A.in1.in1.in1.handled = none := by simp [calm]
        have ne1 : l ≠ (s.heap.push (freshO w)).objs.size := by
          rw [Heap.size_push]; exact Nat.ne_of_lt (Nat.lt_succ_of_lt hlS)
        have ne2 : s.heap.objs.size ∉ [(s.heap.push (freshO w)).objs.size, l] := by
          rw [Heap.size_push]
          intro z
          rcases List.mem_cons.mp z with z | z
          · exact Nat.ne_of_lt (Nat.lt_succ_self _) z
          · exact Nat.ne_of_gt hlS (List.mem_singleton.mp z)
        have val : ∀ (i : Nat) (v : Value), xs[i]? = some v → ∃ k t, ns[i]? = some k ∧ v = .int k t := fun i v hv => by
          have hi : i < ns.length := by rw [← hsz]; exact (Array.getElem?_eq_some_iff.mp hv).1
          obtain ⟨t, e⟩ := PyProof.Rows.IntsAre.int_at hx i v (by rw [Array.getElem?_toList]; exact hv)
          refine ⟨ns[i], t, List.getElem?_eq_getElem hi, ?_⟩
          rw [e, List.getD_eq_getElem?_getD, List.getElem?_eq_getElem hi] <;> rfl
        refine L2.set_update_ints ((Walks.list c3 _ l ne1 xs).toS) s.heap.objs.size ne2 ns hsz hb val (xs.size - 0) 0 _ (by omega) (Nat.zero_le _)
          ⟨⟨_, Heap.get?_push_size _ rfl, rfl, rfl⟩, (hl1.push _)⟩ ?s0 ?s1
        case s0 =>
          exact ⟨0, Nat.le_refl 0, L2.setR_new_at (Heap.get?_push_of_some _ g1)⟩
        case s1 =>
          intro t c hm hc' hS'
          obtain ⟨h', g', d', tk', os'⟩ := t
          have eg : g' = s.gens := hm.gens
          have ed : d' = s.drawn := hm.drawn
          have eo : os' = s.os := hm.os
          subst eg; subst ed; subst eo
          show wpAny _ _ _ _ _ _
          refine wpAny_pure ?_
          show wpAny _ _ (ret Value.none) _ _ _
          rw [hsz] at hc'
          refine wpAny_pure ⟨rfl, h', tk', c, rfl, hS', hc', fun b o e => ?_⟩
          have b0 : b < s.heap.objs.size := Heap.lt_size e
          have b1 : b ≠ (s.heap.push (freshO w)).objs.size := by
            rw [Heap.size_push]; exact Nat.ne_of_lt (Nat.lt_succ_of_lt b0)
          refine hm.heap b o (fun z => ?_) (Heap.get?_push_of_some _ (Heap.get?_push_of_some _ e))
          rcases List.mem_cons.mp z with z | z
          · exact Nat.ne_of_lt b0 z
          · exact b1 (List.mem_singleton.mp z)
      · cases r2 with
        | error e => exact hr2
        | ok fl2 =>
          cases fl2 with
          | ret r =>
            obtain ⟨rfl, h', tk, c, rfl, hS', hc', hk'⟩ := hr2
            repeat (any_goals (first | assumption | wp_step))
            exact k _ _ _ hS' hc' hk'
          | _ => exact hr2.elim
    | _ => exact hr.elim
end
/-- set(xs), xs a list of fewer than 1000 ints -/
def rSetI (K : PySem.W.Frag) (w : World) : List V → Hp → VK → Prop := fun vs H Q => ∃ (a : Addr) (ns : List Int), vs = [V.ref a] ∧ SqL K H a (ns.map V.int) ∧ ns.length + 1 < scanBound ∧
  ∀ p n, H p = none → n ≤ ns.length → Q (.ref p) (upd H p (SetO w p (fun j => decide (j ∈ ns)) n))
theorem call_setI {X : Cx} (hc : X.calm = true) : CallR X (.type "set") (rSetI X.K X.w) := by
  intro pins s σ H vs us Q I r h
  obtain ⟨a, ns, rfl, hq, hz, q⟩ := h
  rw [Vals.ref1 r]
  obtain ⟨its, rv, pl, hl⟩ := I.list hq
  refine set_of_ints (P := X.prog) (w := X.w) ns (I.ok.hd hc) pl.isList (by simpa using ints_of_vals rv) hz fun h' tk c R hc' k => ?_
  exact ⟨.ref _, upd H s.heap.objs.size (SetO X.w s.heap.objs.size (fun j => decide (j ∈ ns)) c), I.laid (t' := tk) k (Nat.le_refl _) (setO_new R), rfl, q _ c (I.hok.fresh (Nat.le_refl _)) hc'⟩
end K78

/-! K78r2: dicts with None among the keys; {tuple: e}; xs[i] += e. -/
namespace K78
open PySem PySem.Spec PyProof.Rows L2
theorem ip_of {X : Cx} {op : Operator} {r : R2} (h : OpR X (inplaceOp op) r) : PIp X op r := h
/-! ### a list's item, by values -/
theorem get_list {X : Cx} : PGet X (rIxL X.K) := by
  intro pins s σ H o i ov iv Q I ro ri h
  obtain ⟨p, xs, k, z, rfl, rfl, hq, he, q⟩ := h
  cases ro
  obtain ⟨t, rfl⟩ := ri
  obtain ⟨its, r, pl, hz⟩ := I.list hq
  obtain ⟨j, h1, h2, h3, h4, h5⟩ := atI_get he
  obtain ⟨w, ew, rw'⟩ := r.get h2
  have hl := r.length
  have hn := line63
  have fin : EP X pins σ Q w s := ⟨z, H, I, rw', q⟩
  by_cases h0 : 0 ≤ k
  · have hj : k.toNat = j := by
      rw [seqIndex_of h0 h5] at h1
      exact Option.some.inj h1
    exact wpAny_getItem_list pl.isList h0 (by omega) (by rw [hj]; simpa using ew) fin
  · have hj : (k + (its.toArray.size : Int)).toNat = j := by
      rw [seqIndex_neg (by omega) h4] at h1
      rw [List.size_toArray, ← hl]
      exact Option.some.inj h1
    exact wpAny_getItem_list_neg pl.isList (by omega) (by rw [List.size_toArray] <;> omega) (by omega) (by rw [hj]; simpa using ew) fin
/-! ### {t: e}, t a tuple -/
def tDispT1 (tk tv : TE) : TE := fun σ H Q => ∀ p, H p = none → tk σ (upd H p (.dT [])) fun x H1 => tv σ H1 fun v H2 => ∃ b k, x = .ref b ∧ H2 b = some (.tup (k.map kV)) ∧ H2 p = some (.dT []) ∧ Q (.ref p) (upd H2 p (.dT [(k, v)]))
theorem pe_dispT1 {X : Cx} {pos : Pos} {ke ve : Expr} {tk tv : TE} (hu : X.A.units + 1 < cLine) (hk : PE X ke tk) (hv : PE X ve tv) : PE X (.Dict [some ke] [ve] pos) (tDispT1 tk tv) := by
  refine ⟨fun pins s σ H Q I q => ?_⟩
  have hn := I.hok.fresh (Nat.le_refl s.heap.objs.size)
  have I1 := I.laid (a := s.heap.objs.size) (o := .dT []) (h' := s.heap.push { cls := .type "dict", data := .dict #[] }) (t' := s.toks) (fun _ _ q => Heap.get?_push_of_some _ q) (Nat.le_refl _) (dt_empty s.heap I.big)
  have sh := zip_pairTrees [some ke] [ve] X.env pos rfl rfl
  rw [PySem.arm_eval_Dict, sh, dictDisplay_pairs (pairTrees [some ke] [ve] X.env pos) (fun z => nomatch z) (by show 1 < 17; decide)]
  refine wpAny_bind (wpAny_standAt (wpAny_bind ?_))
  refine wpAny_subDictH (knd := tupleKind (mixKind X.prog X.w)) (show X.A.units < cLine from Nat.lt_trans (Nat.lt_succ_self _) hu) (by show 1 ≤ 15; decide) ?_
  refine pairTrees_cons_walk (thn (hk.run pins _ σ _ _ I1 (q _ hn)) fun u s1 ⟨x, H1, I2, rx, q1⟩ => thn (hv.run pins s1 σ H1 _ I2 q1) fun w2 s2 ⟨y, H2, I3, ry, b, k, ex, eb, ep, q2⟩ => pairTrees_nil_walk ?_)
  subst ex
  cases (show u = Value.ref b from rx)
  obtain ⟨z, hd, xs0, r0, dd⟩ := dt_of I3.hok ep
  cases r0
  refine ⟨[(k, b, w2)], ⟨rfl, rfl, key_of I3.hok eb, trivial⟩, dd, fun h' tk dd' hs => wpAny_pure ⟨.ref s.heap.objs.size, _, ?_, rfl, q2⟩⟩
  obtain ⟨o, es, epp, ho, hc, hdat, he, his, hnd⟩ := dd'
  refine d_write I3 (by rw [ep]; exact True.intro) hs ⟨o, ho⟩ ⟨by show 1 ≤ sizeLine; decide, hd, [(k, b, w2)], .cons ⟨rfl, ?_, ry⟩ .nil, o, es, epp, ho, hc, hdat, he, hnd⟩
  have ne : b ≠ s.heap.objs.size := ne_of eb ep (fun z => nomatch z)
  show (upd H2 s.heap.objs.size (.dT [(k, y)])) b = _
  rw [upd_ne ne]
  exact eb
/-! ### dict(pairs) with None, ints and texts as keys -/
def kN : Option Key → V
  | none => .non
  | some k => kV k
def DictN (P : Program) (w : World) (a : Addr) (kvs : List (Option Key × V)) : HO := .ext fun h => (a == sysModules) = false ∧ ∃ vs, KV kvs vs ∧ h.DictOf (noneKind P w) a vs
theorem nk_is {P : Program} {w : World} {k : Option Key} {u : Value} (r : RelV (kN k) u) : (noneKind P w).is k u = true := by
  cases k with
  | none =>
    cases (show u = Value.none from r)
    rfl
  | some k => exact kV_is (P := P) (w := w) r
theorem dictN_ok {P : Program} {w : World} {H : Hp} {h : Heap} {a : Addr} {kvs : List (Option Key × V)} {vs : List (Option Key × Value)} (hm : (a == sysModules) = false) (r : KV kvs vs) (d : h.DictOf (noneKind P w) a vs) : ObjOk P w H h a (DictN P w a kvs) := by
  have ⟨o, es, ep, ho, _⟩ := d
  refine ⟨⟨hm, vs, r, d⟩, ⟨o, ho⟩, fun h1 h2 ⟨m, vs', r', d'⟩ k => ⟨m, vs', r', d'.at fun o e => k o e⟩⟩
theorem dictN_get {X : Cx} {pins : List (Addr × Obj)} {σ : L2.St} {H : Hp} {s : Shared} {a : Addr} {kvs : List (Option Key × V)} (I : Inv X pins σ H s) (e : H a = some (DictN X.prog X.w a kvs)) :
    (a == sysModules) = false ∧ ∃ vs, KV kvs vs ∧ s.heap.DictOf (noneKind X.prog X.w) a vs := (I.hok a _ e).1
def mergeN (kvs more : List (Option Key × V)) : List (Option Key × V) := more.foldl (fun acc kv => putK acc kv.1 kv.2) kvs
theorem kvn_merge : ∀ {more : List (Option Key × V)} {rs : List (Option Key × Value)} {kvs : List (Option Key × V)} {vs : List (Option Key × Value)}, KV more rs → KV kvs vs → KV (mergeN kvs more) (merged vs rs) := by
  intro more rs kvs vs r
  unfold KV at r
  induction r generalizing kvs vs with
  | nil => intro q; exact q
  | @cons p q ps qs h t ih =>
    intro r0
    have e : KV (putK kvs p.1 p.2) (stored vs q.1 q.2) := by
      have z := r0.put p.1 h.2
      rw [← h.1]
      exact z
    exact ih e
section
variable {prog : Program} {w : World} {A : Around} {E : Value → Shared → Prop}
/-- the walk over the pairs -/
theorem updN_loop {R : Result → Shared → Prop} {S I l : Addr} {xs : Array Value} {res : Value} (calm : A.handled = none) (h1 : l ≠ I) (h2 : S ≠ I) (h3 : S ≠ l) :
    ∀ (rest : List (Option Key × Value)) (i : Nat) (acc : List (Option Key × Value)) (ix : Int) (t : Tok) (s : Shared), xs.size = i + rest.length → acc.length + rest.length ≤ sizeLine →
      (∀ (j : Nat) (q : Option Key × Value), rest[j]? = some q → ∃ (b : Addr) (u : Value), xs[i + j]? = some (.ref b) ∧ b ≠ S ∧ b ≠ I ∧ IsTup s.heap b #[u, q.2] ∧ nkIs q.1 u = true) →
      s.heap.IsListIter I l i → s.heap.IsList l xs → s.heap.DictOf (noneKind prog w) S acc →
      (∀ h' tk, h'.DictOf (noneKind prog w) S (merged acc rest) → (∀ b o, b ≠ S → b ≠ I → s.heap.get? b = some o → h'.get? b = some o) → R (.ok (.ret res)) { s with heap := h', toks := tk }) →
      codeAny (model prog w) A (.builtin "dict.update.loop" ⟨[.ref S, .ref I, .int ix t, res], []⟩) R s
  | [], i, acc, ix, t, s, hsz, hln, ht, hit, hl, hm, hR => by
    refine codeAny_builtin L2.ud_entry ?_
    rw [Around.under_plainId L2.ud_plain _]
    show wpAny _ A.in1 (pyNext (.ref I) >>= _) _ _ s
    refine wpAny_bind (wpAny_pyNext_list_end (A := A.in1) calm hit hl (by first | exact Array.getElem?_eq_none (Nat.le_of_eq hsz) | (simp at hsz; simp; omega)) fun h' he => ?_)
    show wpAny _ A.in1 (Builtin.Dict.addKeywords S [] >>= _) _ _ _
    refine wpAny_bind (wpAny_pure (wpAny_pure ?_))
    exact hR h' s.toks (hm.extBut he h2) fun b o _ hb e => he b o hb e
  | q :: rest, i, acc, ix, t, s, hsz, hln, ht, hit, hl, hm, hR => by
    obtain ⟨b, u, hb, hbS, hbI, htup, hk⟩ := ht 0 q rfl
    rw [List.length_cons] at hsz hln
    refine codeAny_builtin L2.ud_entry ?_
    rw [Around.under_plainId L2.ud_plain _]
    show wpAny _ A.in1 (pyNext (.ref I) >>= _) _ _ s
    refine wpAny_bind (wpAny_pyNext_list_item (x := .ref b) hit hl (by simpa using hb) fun g1 hit1 hs1 => ?_)
    have ht1 : IsTup g1 b #[u, q.2] := htup.extBut hs1.extBut hbI
    have hl1 : g1.IsList l xs := hl.extBut hs1.extBut h1
    have hm1 : g1.DictOf (noneKind prog w) S acc := hm.extBut hs1.extBut h2
    obtain ⟨o, ho, hc, n, hd⟩ := id ht1
    show wpAny _ A.in1 (holding [Value.ref b] _ >>= _) _ _ _
    refine wpAny_bind (wpAny_holding ?_)
    refine wpAny_bind (wpAny_tryCatch ?_)
    unfold Builtin.Dict.pairItems
    refine wpAny_bind (wpAny_typeOf (T := "tuple") ⟨o, ho, hc⟩ ?_)
    rw [if_pos (by first | decide | rfl | simp)]
    refine wpAny_bind (wpAny_seqItems ho hd (wpAny_pure ?_))
    show wpAny _ A.in1 (holding [u, q.2] (dictSet S u q.2)) _ _ _
    refine wpAny_holding (wpAny_dictSet_pairs (knd := noneKind prog w) (k := q.1) hk hm1 (fun g2 hm2 hs2 => ?_) (by omega))
    refine wpAny_pure ⟨plainId_quiet L2.ud_plain _, updN_loop (xs := xs) calm h1 h2 h3 rest (i + 1) (stored acc q.1 q.2) (ix + 1) 0 _ (show xs.size = i + 1 + rest.length by omega) ?_ (fun j q' e => ?_) ?_ ?_ hm2 fun h' tk hd' k => ?_⟩
    · have z := stored_length_le acc q.1 q.2
      omega
    · obtain ⟨b', u', hb', hbS', hbI', htup', hk'⟩ := ht (j + 1) q' (by simpa using e)
      refine ⟨b', u', ?_, hbS', hbI', (htup'.extBut hs1.extBut hbI').extBut hs2.extBut hbS', hk'⟩
      rw [show i + 1 + j = i + (j + 1) by omega]
      exact hb'
    · exact hit1.at fun o' e => hs2.extBut I o' (Ne.symm h2) e
    · exact hl1.extBut hs2.extBut (Ne.symm h3)
    · exact hR h' tk hd' fun c oc g3 g4 e => k c oc g3 g4 (hs2.extBut c oc g3 (hs1.extBut c oc g4 e))
theorem dict_pairsN {s : Shared} {l : Addr} {ol : Obj} {xs : Array Value} {n : Nat} {prs : List (Option Key × Value)} {Q : Value → Shared → Prop} (calm : A.handled = none) (hl : s.heap.get? l = some ol) (hc : ol.cls = .type "list") (hd : ol.dict = none)
    (hdat : ol.data = .seq xs n) (hsz : xs.size = prs.length) (hln : prs.length ≤ sizeLine)
    (ht : ∀ (j : Nat) (q : Option Key × Value), prs[j]? = some q → ∃ (b : Addr) (u : Value), xs[j]? = some (.ref b) ∧ IsTup s.heap b #[u, q.2] ∧ nkIs q.1 u = true)
    (h : ∀ h' tk, h'.DictOf (noneKind prog w) s.heap.objs.size (merged [] prs) → (∀ b o, s.heap.get? b = some o → h'.get? b = some o) → Q (.ref s.heap.objs.size) { s with heap := h', toks := tk }) :
    wpAny (model prog w) A (call (.type "dict") [.ref l]) Q E s := by
  refine callType_codes (Q₁ := fun ob t => ob = .ref s.heap.objs.size ∧ t = { s with heap := s.heap.push { cls := .type "dict", data := .dict #[] } }) PySem.F.kt_called_dict (PySem.F.kt_typeCall_dict_1 _) PySem.F.entry_dict_init (kt_code_dict_new _ ⟨rfl, rfl⟩) ?_
  rintro ob t ⟨rfl, rfl⟩
  have new : (s.heap.push { cls := .type "dict", data := .dict #[] }).DictOf (noneKind prog w) s.heap.objs.size [] := Heap.DictOf.new s.heap
  have k0 : ∀ b o, s.heap.get? b = some o → (s.heap.push { cls := .type "dict", data := .dict #[] }).get? b = some o := fun b o e => Heap.get?_push_of_some _ e
  refine ⟨new.typeIs, PySem.F.args_dict_init_2 _ _, ?_⟩
  unfold Builtin.«dict.__init__»
  refine wpAny_bind ?_
  unfold Builtin.Dict.selfAndRest
  refine wpAny_bind (wpAny_notOrdered_dict new.typeIs ?_)
  show wpAny _ _ (pure (s.heap.objs.size, [Value.ref l])) _ _ _
  refine wpAny_pure ?_
  show wpAny _ _ (Builtin.Dict.updateFrom "dict.__init__" s.heap.objs.size (.ref l) [] .none) _ _ _
  unfold Builtin.Dict.updateFrom
  refine wpAny_bind (wpAny_typeOf (T := "list") ⟨ol, k0 _ _ hl, hc⟩ ?_)
  rw [if_pos (by first | decide | rfl | simp)]
  refine wpAny_bind (L2.miss_list (k0 _ _ hl) hc hdat hd calm fun g1 tk1 hk1 => ?_)
  rw [if_pos (show (none : Option Value).isNone = true from rfl)]
  refine wpAny_bind (wpAny_rule ?_)
  have hl1 : g1.IsList l xs := ⟨ol, hk1 _ _ (k0 _ _ hl), hc, n, hdat⟩
  have hS1 : s.heap.objs.size < g1.objs.size := by
    have e : (s.heap.push { cls := .type "dict", data := .dict #[] }).get? s.heap.objs.size = some { cls := .type "dict", data := .dict #[] } := Heap.get?_push_size _ rfl
    exact Heap.lt_size (hk1 _ _ e)
  refine wpAny_bind (wpAny_pyIter_list hl1 ?_)
  have k2 : ∀ b o, g1.get? b = some o → (g1.push { cls := .type "list_iterator", data := .fields #[.ref l, .int 0 0] }).get? b = some o := fun b o e => Heap.get?_push_of_some _ e
  have hlt : l < s.heap.objs.size := Heap.lt_size hl
  have key := updN_loop (prog := prog) (w := w) (A := A.in1) (R := wants (fun r t => r = .none ∧ Q (.ref s.heap.objs.size) t) E) (S := s.heap.objs.size) (I := g1.objs.size) (l := l) (xs := xs) (res := Value.none) calm
    (Nat.ne_of_lt (Nat.lt_trans hlt hS1)) (Nat.ne_of_lt hS1) (Nat.ne_of_gt hlt) prs 0 [] 0 0
    { s with heap := g1.push { cls := .type "list_iterator", data := .fields #[.ref l, .int 0 0] }, toks := tk1 } (by rw [hsz, Nat.zero_add]) (by rw [List.length_nil, Nat.zero_add]; exact hln)
    (fun j q e => by
      obtain ⟨b, u, e1, e2, e3⟩ := ht j q e
      have hb : b < s.heap.objs.size := e2.lt
      exact ⟨b, u, by rw [Nat.zero_add]; exact e1, Nat.ne_of_lt hb, Nat.ne_of_lt (Nat.lt_trans hb hS1), e2.keeps fun c o z => k2 _ _ (hk1 _ _ (k0 _ _ z)), e3⟩)
    ⟨_, Heap.get?_push_size _ rfl, rfl, rfl⟩ (hl1.at fun o e => k2 _ _ e) ((new.at fun o e => hk1 _ _ e).at fun o e => k2 _ _ e)
    (fun h' tk hd' k => ⟨rfl, h h' tk hd' fun b o e => k b o (Nat.ne_of_lt (Heap.lt_size e)) (Nat.ne_of_lt (Nat.lt_trans (Heap.lt_size e) hS1)) (k2 _ _ (hk1 _ _ (k0 _ _ e)))⟩)
  first
    | exact wpAny_pure ⟨plainId_quiet L2.ud_plain _, key⟩
    | exact wpAny_bind (wpAny_pure (wpAny_pure ⟨plainId_quiet L2.ud_plain _, key⟩))
end
section
variable {X : Cx}
theorem pairsN_of {pins : List (Addr × Obj)} {σ : L2.St} {H : Hp} {s : Shared} (I : Inv X pins σ H s) : ∀ {ps : List Addr} {kvs : List (Option Key × V)}, Paired (fun p kv => SqT X.K H p [kN kv.1, kv.2]) ps kvs →
    ∃ prs : List (Option Key × Value), KV kvs prs ∧ prs.length = ps.length ∧ ∀ (j : Nat) (q : Option Key × Value), prs[j]? = some q → ∃ (b : Addr) (u : Value), ps[j]? = some b ∧ IsTup s.heap b #[u, q.2] ∧ nkIs q.1 u = true
  | _, _, .nil => ⟨[], .nil, rfl, fun j q e => by simp at e⟩
  | _, _, .cons (a := p) (b := kv) h t => by
    obtain ⟨prs, r, hl, hp⟩ := pairsN_of I t
    obtain ⟨its, rv, ht, _⟩ := I.tuple h
    obtain ⟨u, y, ei, ru, ry⟩ := vals2 rv
    subst ei
    refine ⟨(kv.1, y) :: prs, .cons ⟨rfl, ry⟩ r, by rw [List.length_cons, List.length_cons, hl], fun j q e => ?_⟩
    cases j with
    | zero =>
      have e' : (kv.1, y) = q := Option.some.inj e
      subst e'
      exact ⟨p, u, rfl, ht, nk_is (P := X.prog) (w := X.w) ru⟩
    | succ j =>
      obtain ⟨b, u', e1, e2, e3⟩ := hp j q (by simpa using e)
      exact ⟨b, u', by simpa using e1, e2, e3⟩
/-- dict(xs), xs a list of pairs whose keys are None, ints, texts -/
def rDictN (K : PySem.W.Frag) (P : Program) (w : World) : List V → Hp → VK → Prop := fun xs H Q => ∃ (a : Addr) (ps : List Addr) (kvs : List (Option Key × V)), xs = [.ref a] ∧ SqL K H a (ps.map V.ref) ∧ Paired (fun p kv => SqT K H p [kN kv.1, kv.2]) ps kvs ∧
    ∀ p, H p = none → Q (.ref p) (upd H p (DictN P w p (mergeN [] kvs)))
theorem call_dictN (hcalm : X.calm = true) : CallR X (.type "dict") (rDictN X.K X.prog X.w) := by
  intro pins s σ H xs us Q I r q
  obtain ⟨a, ps, kvs, ex, hq, hp, q⟩ := q
  subst ex
  obtain ⟨u, eu, rx⟩ := vals1 r
  subst eu
  cases rx
  obtain ⟨its, rv, pl, hz⟩ := I.list hq
  have ei := refs_at rv
  subst ei
  rw [List.length_map] at hz
  obtain ⟨prs, rel, hl, hpr⟩ := pairsN_of I hp
  obtain ⟨o, n, ho, hc, hd, hdat⟩ := pl
  refine dict_pairsN (prs := prs) (I.ok.hd hcalm) ho hc hd hdat (by simp [hl]) (by rw [hl]; exact hz) (fun j q' e => ?_) fun h' tk hd' k => ?_
  · obtain ⟨b, u, e1, e2, e3⟩ := hpr j q' e
    exact ⟨b, u, by simp [e1], e2, e3⟩
  · have hm : (s.heap.objs.size == sysModules) = false := beq_eq_false_iff_ne.mpr (Nat.ne_of_gt I.big)
    exact ⟨.ref s.heap.objs.size, upd H s.heap.objs.size (DictN X.prog X.w s.heap.objs.size (mergeN [] kvs)), I.laid (t' := tk) k (Nat.le_refl _) (dictN_ok hm (kvn_merge rel .nil) hd'), rfl, q _ (I.hok.fresh (Nat.le_refl _))⟩
/-- y not in d; d[y] -/
def tNNotIn (P : Program) (w : World) (ty td : TE) : TE := fun σ H Q => ty σ H fun y H1 => td σ H1 fun x H2 => ∃ a kvs k, x = .ref a ∧ y = kN k ∧ H2 a = some (DictN P w a kvs) ∧ Q (.bl (!(valV kvs k).isSome)) H2
def tNGet (P : Program) (w : World) (td ty : TE) : TE := fun σ H Q => td σ H fun x H1 => ty σ H1 fun y H2 => ∃ a kvs k v, x = .ref a ∧ y = kN k ∧ H2 a = some (DictN P w a kvs) ∧ valV kvs k = some v ∧ Q v H2
variable {o i : Expr} {td ty : TE} {pos : Pos}
theorem pc_nnotin (hi : PE X i ty) (ho : PE X o td) : PC X .NotIn i o (tNNotIn X.prog X.w ty td) := by
  refine ⟨fun pins s σ H Q I h => ?_⟩
  refine thn (hi.run pins s σ H _ I h) fun iv s1 ⟨y, H1, I1, ry, q1⟩ => thn (ho.run pins s1 σ H1 _ I1 q1) fun u s2 ⟨x, H2, I2, rx, a, kvs, k, ex, ey, e, q2⟩ => ?_
  subst ex ey
  obtain rfl : u = Value.ref a := rx
  obtain ⟨hm, vs, r, d⟩ := dictN_get I2 e
  refine wpAny_notIn_of (nk_is ry) hm d.mapOf ?_
  rw [← (r.val k).isSome_eq]
  exact ⟨.bl (!(valV kvs k).isSome), H2, I2.tok _, rfl, q2⟩
theorem pe_ngetN (ho : PE X o td) (hi : PE X i ty) (hs : NoSl i) : PE X (.Subscript o i pos) (tNGet X.prog X.w td ty) := by
  refine ⟨fun pins s σ H Q I h => ?_⟩
  refine subD_of PySem.F.slot_dict_getitem.lookup hs (thn (ho.run pins s σ H _ I h) fun u s1 ⟨x, H1, I1, rx, q1⟩ => thn (hi.run pins s1 σ H1 _ I1 q1) fun iv s2 ⟨y, H2, I2, ry, a, kvs, k, v, ex, ey, e, ev, q2⟩ => ?_)
  subst ex ey
  obtain rfl : u = Value.ref a := rx
  obtain ⟨hm, vs, r, d⟩ := dictN_get I2 e
  obtain ⟨w', hw, rw'⟩ := RelO.some_of (v := v) (o := valueAt vs k) (by rw [← ev]; exact r.val k)
  exact ⟨d.typeIs, wpAny_getItem_of (nk_is ry) d.mapOf hw ⟨v, H2, I2.tok _, rw', q2⟩⟩
end
end K78

/-! K78t: the text by places; what the top leaves. -/
namespace K78
open PySem PySem.Spec PyProof.Rows L2 Evl
def topS (i : Nat) : Stmt := PySem.Challenge.pw_goesnext_k78_whole_blocks_forgotten.main.body.getD i (.Pass ⟨0, 0, 0, 0⟩)
abbrev s_is_integer : Stmt := topS 5
theorem sc_is_integer : FnScope ["value", "least", "most"] ["value", "least", "most"] (defScope s_is_integer) := ⟨rfl, rfl, rfl, by decide +kernel, rfl, by decide +kernel, by decide +kernel⟩
abbrev s_is_permutation_of : Stmt := topS 6
theorem sc_is_permutation_of : FnScope ["value", "size", "item"] ["value", "size"] (defScope s_is_permutation_of) := ⟨rfl, rfl, rfl, by decide +kernel, rfl, by decide +kernel, by decide +kernel⟩
abbrev s_check_rule : Stmt := topS 10
theorem sc_check_rule : FnScope ["value", "index", "item"] ["value"] (defScope s_check_rule) := ⟨rfl, rfl, rfl, by decide +kernel, rfl, by decide +kernel, by decide +kernel⟩
abbrev s_places_of : Stmt := topS 12
theorem sc_places_of : FnScope ["mask", "place"] ["mask"] (defScope s_places_of) := ⟨rfl, rfl, rfl, by decide +kernel, rfl, by decide +kernel, by decide +kernel⟩
abbrev s_mask_behind : Stmt := topS 13
theorem sc_mask_behind : FnScope ["rule", "mask", "place", "found", "other"] ["rule", "mask", "place"] (defScope s_mask_behind) := ⟨rfl, rfl, rfl, by decide +kernel, rfl, by decide +kernel, by decide +kernel⟩
abbrev s_longest_from : Stmt := topS 14
theorem sc_longest_from : FnScope ["rule", "mask", "table", "best", "chosen", "place", "behind"] ["rule", "mask", "table"] (defScope s_longest_from) := ⟨rfl, rfl, rfl, by decide +kernel, rfl, by decide +kernel, by decide +kernel⟩
abbrev s_all_places : Stmt := topS 15
theorem sc_all_places : FnScope ["rule"] ["rule"] (defScope s_all_places) := ⟨rfl, rfl, rfl, by decide +kernel, rfl, by decide +kernel, by decide +kernel⟩
abbrev s_forgets : Stmt := topS 16
theorem sc_forgets : FnScope ["rule"] ["rule"] (defScope s_forgets) := ⟨rfl, rfl, rfl, by decide +kernel, rfl, by decide +kernel, by decide +kernel⟩
abbrev s_forgetting : Stmt := topS 17
theorem sc_forgetting : FnScope ["rule", "table", "mask", "found", "turn", "place"] ["rule"] (defScope s_forgetting) := ⟨rfl, rfl, rfl, by decide +kernel, rfl, by decide +kernel, by decide +kernel⟩
abbrev s_shows_forgetting : Stmt := topS 18
theorem sc_shows_forgetting : FnScope ["rule", "value", "mask", "item"] ["rule", "value"] (defScope s_shows_forgetting) := ⟨rfl, rfl, rfl, by decide +kernel, rfl, by decide +kernel, by decide +kernel⟩
abbrev s_check_place : Stmt := topS 22
theorem sc_check_place : FnScope ["rule", "value"] ["rule", "value"] (defScope s_check_place) := ⟨rfl, rfl, rfl, by decide +kernel, rfl, by decide +kernel, by decide +kernel⟩
abbrev s_check_gap : Stmt := topS 23
theorem sc_check_gap : FnScope ["value"] ["value"] (defScope s_check_gap) := ⟨rfl, rfl, rfl, by decide +kernel, rfl, by decide +kernel, by decide +kernel⟩
abbrev s_moves_at : Stmt := topS 24
theorem sc_moves_at : FnScope ["rule", "place", "hits", "hit"] ["rule", "place"] (defScope s_moves_at) := ⟨rfl, rfl, rfl, by decide +kernel, rfl, by decide +kernel, by decide +kernel⟩
abbrev s_shortest_out : Stmt := topS 25
theorem sc_shortest_out : FnScope ["rule", "place", "ways", "waiting", "later", "here", "item", "there"] ["rule", "place"] (defScope s_shortest_out) := ⟨rfl, rfl, rfl, by decide +kernel, rfl, by decide +kernel, by decide +kernel⟩
abbrev s_shortest_lost : Stmt := topS 26
theorem sc_shortest_lost : FnScope ["rule", "gap", "start", "ways", "waiting", "later", "here", "place", "many", "found", "item", "state", "there"] ["rule", "gap"] (defScope s_shortest_lost) := ⟨rfl, rfl, rfl, by decide +kernel, rfl, by decide +kernel, by decide +kernel⟩
abbrev s_greatest_gap : Stmt := topS 27
theorem sc_greatest_gap : FnScope ["rule", "found"] ["rule"] (defScope s_greatest_gap) := ⟨rfl, rfl, rfl, by decide +kernel, rfl, by decide +kernel, by decide +kernel⟩
abbrev s_life : Stmt := topS 28
theorem sc_life : FnScope ["rule", "place"] ["rule", "place"] (defScope s_life) := ⟨rfl, rfl, rfl, by decide +kernel, rfl, by decide +kernel, by decide +kernel⟩
abbrev s_way_out : Stmt := topS 29
theorem sc_way_out : FnScope ["rule", "place"] ["rule", "place"] (defScope s_way_out) := ⟨rfl, rfl, rfl, by decide +kernel, rfl, by decide +kernel, by decide +kernel⟩
abbrev s_is_item : Stmt := topS 30
theorem sc_is_item : FnScope ["value"] ["value"] (defScope s_is_item) := ⟨rfl, rfl, rfl, by decide +kernel, rfl, by decide +kernel, by decide +kernel⟩
abbrev s_place_behind : Stmt := topS 31
theorem sc_place_behind : FnScope ["rule", "place", "items", "here", "item", "nexts"] ["rule", "place", "items"] (defScope s_place_behind) := ⟨rfl, rfl, rfl, by decide +kernel, rfl, by decide +kernel, by decide +kernel⟩
abbrev s_is_way_out : Stmt := topS 32
theorem sc_is_way_out : FnScope ["rule", "place", "value", "item"] ["rule", "place", "value"] (defScope s_is_way_out) := ⟨rfl, rfl, rfl, by decide +kernel, rfl, by decide +kernel, by decide +kernel⟩
abbrev s_keeps : Stmt := topS 33
theorem sc_keeps : FnScope ["rule"] ["rule"] (defScope s_keeps) := ⟨rfl, rfl, rfl, by decide +kernel, rfl, by decide +kernel, by decide +kernel⟩
abbrev s_lost_way : Stmt := topS 34
theorem sc_lost_way : FnScope ["rule", "gap"] ["rule", "gap"] (defScope s_lost_way) := ⟨rfl, rfl, rfl, by decide +kernel, rfl, by decide +kernel, by decide +kernel⟩
abbrev s_most_others : Stmt := topS 35
theorem sc_most_others : FnScope ["items", "most", "many", "item"] ["items"] (defScope s_most_others) := ⟨rfl, rfl, rfl, by decide +kernel, rfl, by decide +kernel, by decide +kernel⟩
abbrev s_is_lost_way : Stmt := topS 36
theorem sc_is_lost_way : FnScope ["rule", "gap", "value", "item"] ["rule", "gap", "value"] (defScope s_is_lost_way) := ⟨rfl, rfl, rfl, by decide +kernel, rfl, by decide +kernel, by decide +kernel⟩
abbrev s_law_bag : Stmt := topS 38
theorem sc_law_bag : FnScope ["_law_cell", "_law_k"] ["_law_cell", "_law_k"] (defScope s_law_bag) := ⟨rfl, rfl, rfl, by decide +kernel, rfl, by decide +kernel, by decide +kernel⟩
abbrev s_law_draw : Stmt := topS 39
theorem sc_law_draw : FnScope ["_law_bag_here", "_law_many", "_law_digit", "_law_one"] ["_law_bag_here", "_law_many"] (defScope s_law_draw) := ⟨rfl, rfl, rfl, by decide +kernel, rfl, by decide +kernel, by decide +kernel⟩
abbrev s_law_shuffle : Stmt := topS 40
theorem sc_law_shuffle : FnScope ["_law_bag_here", "_law_many", "_law_left", "_law_found"] ["_law_bag_here", "_law_many"] (defScope s_law_shuffle) := ⟨rfl, rfl, rfl, by decide +kernel, rfl, by decide +kernel, by decide +kernel⟩
abbrev s_law_lifted : Stmt := topS 41
theorem sc_law_lifted : FnScope ["_law_aims", "_law_found", "_law_i", "_law_ways", "_law_j"] ["_law_aims"] (defScope s_law_lifted) := ⟨rfl, rfl, rfl, by decide +kernel, rfl, by decide +kernel, by decide +kernel⟩
abbrev s_law_some_rule : Stmt := topS 42
theorem sc_law_some_rule : FnScope ["_law_bag_here", "_law_k", "_law_kind", "_law_same", "_law_i"] ["_law_bag_here", "_law_k"] (defScope s_law_some_rule) := ⟨rfl, rfl, rfl, by decide +kernel, rfl, by decide +kernel, by decide +kernel⟩
abbrev s_law_later : Stmt := topS 43
theorem sc_law_later : FnScope ["_law_plan", "_law_spots", "_law_call", "_law_spot"] ["_law_plan", "_law_spots", "_law_call"] (defScope s_law_later) := ⟨rfl, rfl, rfl, by decide +kernel, rfl, by decide +kernel, by decide +kernel⟩
abbrev s_law_forgets : Stmt := topS 44
theorem sc_law_forgets : FnScope ["_law_plan", "_law_many", "_law_layer", "_law_found", "_law_later_here", "_law_spots", "_law_call", "_law_here"] ["_law_plan"] (defScope s_law_forgets) := ⟨rfl, rfl, rfl, by decide +kernel, rfl, by decide +kernel, by decide +kernel⟩
abbrev s_law_history_right : Stmt := topS 45
theorem sc_law_history_right : FnScope ["_law_plan", "_law_calls", "_law_spots", "_law_call"] ["_law_plan", "_law_calls"] (defScope s_law_history_right) := ⟨rfl, rfl, rfl, by decide +kernel, rfl, by decide +kernel, by decide +kernel⟩
abbrev s_law_life : Stmt := topS 46
theorem sc_law_life : FnScope ["_law_plan", "_law_place", "_law_layer", "_law_known", "_law_found", "_law_later_here", "_law_here", "_law_q"] ["_law_plan", "_law_place"] (defScope s_law_life) := ⟨rfl, rfl, rfl, by decide +kernel, rfl, by decide +kernel, by decide +kernel⟩
abbrev s_law_lost : Stmt := topS 47
theorem sc_law_lost : FnScope ["_law_plan", "_law_gap", "_law_starts", "_law_at", "_law_layer", "_law_ends", "_law_k", "_law_later_here", "_law_here", "_law_q"] ["_law_plan", "_law_gap"] (defScope s_law_lost) := ⟨rfl, rfl, rfl, by decide +kernel, rfl, by decide +kernel, by decide +kernel⟩
abbrev s_law_walk : Stmt := topS 48
theorem sc_law_walk : FnScope ["_law_plan", "_law_place", "_law_calls", "_law_gap", "_law_here", "_law_many", "_law_k", "_law_call"] ["_law_plan", "_law_place", "_law_calls", "_law_gap"] (defScope s_law_walk) := ⟨rfl, rfl, rfl, by decide +kernel, rfl, by decide +kernel, by decide +kernel⟩
abbrev s_law_keeping_right : Stmt := topS 49
theorem sc_law_keeping_right : FnScope ["_law_bag_here", "_law_plan", "_law_many", "_law_place", "_law_told", "_law_best", "_law_gap", "_law_calls", "_law_k"] ["_law_bag_here", "_law_plan"] (defScope s_law_keeping_right) := ⟨rfl, rfl, rfl, by decide +kernel, rfl, by decide +kernel, by decide +kernel⟩
abbrev s_law_right : Stmt := topS 50
theorem sc_law_right : FnScope ["_law_bag_here", "_law_many", "_law_plan", "_law_due", "_law_told", "_law_calls", "_law_k"] ["_law_bag_here"] (defScope s_law_right) := ⟨rfl, rfl, rfl, by decide +kernel, rfl, by decide +kernel, by decide +kernel⟩
abbrev s_law : Stmt := topS 51
theorem sc_law : FnScope ["_law_script", "_law_cells", "_law_k"] ["_law_script"] (defScope s_law) := ⟨rfl, rfl, rfl, by decide +kernel, rfl, by decide +kernel, by decide +kernel⟩
/-- a def without defaults, as the top leaves it -/
structure DefAt (K : PySem.W.Frag) (mg : Str → Option Value) (x : Str) (st : Stmt) (ps : List Str) (f : Addr) (fd : FuncData) : Prop where
  F : Fun K x x st f fd
  b : Binds K fd ps []
  g : mg x = some (.ref f)
theorem DefAt.kp {K : PySem.W.Frag} {mg : Str → Option Value} {x : Str} {st : Stmt} {ps : List Str} {f : Addr} {fd : FuncData} (D : DefAt K mg x st ps f fd) : PySem.W.keepIn K (.ref f) = true := D.F.kp
/-- is_integer, with its two defaults -/
structure IntAt (K : PySem.W.Frag) (mg : Str → Option Value) (f : Addr) (fd : FuncData) (d1 d3 : List Value) : Prop where
  F : FunD K "is_integer" "is_integer" (defArgs s_is_integer) (defBody s_is_integer) (defScope s_is_integer) [.non, .non] [] f fd
  g : mg "is_integer" = some (.ref f)
  v1 : Vals [V.non, V.non] d1
  b1 : Binds K fd ["value", "least", "most"] d1
  v3 : Vals ([] : List V) d3
  b3 : Binds K fd ["value", "least", "most"] d3
theorem IntAt.kp {K : PySem.W.Frag} {mg : Str → Option Value} {f : Addr} {fd : FuncData} {d1 d3 : List Value} (D : IntAt K mg f fd d1 d3) : PySem.W.keepIn K (.ref f) = true := D.F.kp
structure Tx (K : PySem.W.Frag) (mg : Str → Option Value) where
  d1 : List Value
  d3 : List Value
  a_is_integer : Addr
  d_is_integer : FuncData
  h_is_integer : IntAt K mg a_is_integer d_is_integer d1 d3
  a_is_permutation_of : Addr
  d_is_permutation_of : FuncData
  h_is_permutation_of : DefAt K mg "is_permutation_of" s_is_permutation_of ["value", "size"] a_is_permutation_of d_is_permutation_of
  a_check_rule : Addr
  d_check_rule : FuncData
  h_check_rule : DefAt K mg "check_rule" s_check_rule ["value"] a_check_rule d_check_rule
  a_places_of : Addr
  d_places_of : FuncData
  h_places_of : DefAt K mg "places_of" s_places_of ["mask"] a_places_of d_places_of
  a_mask_behind : Addr
  d_mask_behind : FuncData
  h_mask_behind : DefAt K mg "mask_behind" s_mask_behind ["rule", "mask", "place"] a_mask_behind d_mask_behind
  a_longest_from : Addr
  d_longest_from : FuncData
  h_longest_from : DefAt K mg "longest_from" s_longest_from ["rule", "mask", "table"] a_longest_from d_longest_from
  a_all_places : Addr
  d_all_places : FuncData
  h_all_places : DefAt K mg "all_places" s_all_places ["rule"] a_all_places d_all_places
  a_forgets : Addr
  d_forgets : FuncData
  h_forgets : DefAt K mg "forgets" s_forgets ["rule"] a_forgets d_forgets
  a_forgetting : Addr
  d_forgetting : FuncData
  h_forgetting : DefAt K mg "forgetting" s_forgetting ["rule"] a_forgetting d_forgetting
  a_shows_forgetting : Addr
  d_shows_forgetting : FuncData
  h_shows_forgetting : DefAt K mg "shows_forgetting" s_shows_forgetting ["rule", "value"] a_shows_forgetting d_shows_forgetting
  a_check_place : Addr
  d_check_place : FuncData
  h_check_place : DefAt K mg "check_place" s_check_place ["rule", "value"] a_check_place d_check_place
  a_check_gap : Addr
  d_check_gap : FuncData
  h_check_gap : DefAt K mg "check_gap" s_check_gap ["value"] a_check_gap d_check_gap
  a_moves_at : Addr
  d_moves_at : FuncData
  h_moves_at : DefAt K mg "moves_at" s_moves_at ["rule", "place"] a_moves_at d_moves_at
  a_shortest_out : Addr
  d_shortest_out : FuncData
  h_shortest_out : DefAt K mg "shortest_out" s_shortest_out ["rule", "place"] a_shortest_out d_shortest_out
  a_shortest_lost : Addr
  d_shortest_lost : FuncData
  h_shortest_lost : DefAt K mg "shortest_lost" s_shortest_lost ["rule", "gap"] a_shortest_lost d_shortest_lost
  a_greatest_gap : Addr
  d_greatest_gap : FuncData
  h_greatest_gap : DefAt K mg "greatest_gap" s_greatest_gap ["rule"] a_greatest_gap d_greatest_gap
  a_life : Addr
  d_life : FuncData
  h_life : DefAt K mg "life" s_life ["rule", "place"] a_life d_life
  a_way_out : Addr
  d_way_out : FuncData
  h_way_out : DefAt K mg "way_out" s_way_out ["rule", "place"] a_way_out d_way_out
  a_is_item : Addr
  d_is_item : FuncData
  h_is_item : DefAt K mg "is_item" s_is_item ["value"] a_is_item d_is_item
  a_place_behind : Addr
  d_place_behind : FuncData
  h_place_behind : DefAt K mg "place_behind" s_place_behind ["rule", "place", "items"] a_place_behind d_place_behind
  a_is_way_out : Addr
  d_is_way_out : FuncData
  h_is_way_out : DefAt K mg "is_way_out" s_is_way_out ["rule", "place", "value"] a_is_way_out d_is_way_out
  a_keeps : Addr
  d_keeps : FuncData
  h_keeps : DefAt K mg "keeps" s_keeps ["rule"] a_keeps d_keeps
  a_lost_way : Addr
  d_lost_way : FuncData
  h_lost_way : DefAt K mg "lost_way" s_lost_way ["rule", "gap"] a_lost_way d_lost_way
  a_most_others : Addr
  d_most_others : FuncData
  h_most_others : DefAt K mg "most_others" s_most_others ["items"] a_most_others d_most_others
  a_is_lost_way : Addr
  d_is_lost_way : FuncData
  h_is_lost_way : DefAt K mg "is_lost_way" s_is_lost_way ["rule", "gap", "value"] a_is_lost_way d_is_lost_way
  a_law_bag : Addr
  d_law_bag : FuncData
  h_law_bag : DefAt K mg "_law_bag" s_law_bag ["_law_cell", "_law_k"] a_law_bag d_law_bag
  a_law_draw : Addr
  d_law_draw : FuncData
  h_law_draw : DefAt K mg "_law_draw" s_law_draw ["_law_bag_here", "_law_many"] a_law_draw d_law_draw
  a_law_shuffle : Addr
  d_law_shuffle : FuncData
  h_law_shuffle : DefAt K mg "_law_shuffle" s_law_shuffle ["_law_bag_here", "_law_many"] a_law_shuffle d_law_shuffle
  a_law_lifted : Addr
  d_law_lifted : FuncData
  h_law_lifted : DefAt K mg "_law_lifted" s_law_lifted ["_law_aims"] a_law_lifted d_law_lifted
  a_law_some_rule : Addr
  d_law_some_rule : FuncData
  h_law_some_rule : DefAt K mg "_law_some_rule" s_law_some_rule ["_law_bag_here", "_law_k"] a_law_some_rule d_law_some_rule
  a_law_later : Addr
  d_law_later : FuncData
  h_law_later : DefAt K mg "_law_later" s_law_later ["_law_plan", "_law_spots", "_law_call"] a_law_later d_law_later
  a_law_forgets : Addr
  d_law_forgets : FuncData
  h_law_forgets : DefAt K mg "_law_forgets" s_law_forgets ["_law_plan"] a_law_forgets d_law_forgets
  a_law_history_right : Addr
  d_law_history_right : FuncData
  h_law_history_right : DefAt K mg "_law_history_right" s_law_history_right ["_law_plan", "_law_calls"] a_law_history_right d_law_history_right
  a_law_life : Addr
  d_law_life : FuncData
  h_law_life : DefAt K mg "_law_life" s_law_life ["_law_plan", "_law_place"] a_law_life d_law_life
  a_law_lost : Addr
  d_law_lost : FuncData
  h_law_lost : DefAt K mg "_law_lost" s_law_lost ["_law_plan", "_law_gap"] a_law_lost d_law_lost
  a_law_walk : Addr
  d_law_walk : FuncData
  h_law_walk : DefAt K mg "_law_walk" s_law_walk ["_law_plan", "_law_place", "_law_calls", "_law_gap"] a_law_walk d_law_walk
  a_law_keeping_right : Addr
  d_law_keeping_right : FuncData
  h_law_keeping_right : DefAt K mg "_law_keeping_right" s_law_keeping_right ["_law_bag_here", "_law_plan"] a_law_keeping_right d_law_keeping_right
  a_law_right : Addr
  d_law_right : FuncData
  h_law_right : DefAt K mg "_law_right" s_law_right ["_law_bag_here"] a_law_right d_law_right
  a_law : Addr
  d_law : FuncData
  h_law : DefAt K mg "law" s_law ["_law_script"] a_law d_law
  z_isinstance : mg "isinstance" = none
  z_len : mg "len" = none
  z_all : mg "all" = none
  z_max : mg "max" = none
  z_min : mg "min" = none
  z_sorted : mg "sorted" = none
  z_list : mg "list" = none
  z_int : mg "int" = none
  z_set : mg "set" = none
  z_dict : mg "dict" = none
  z_range : mg "range" = none
  z_enumerate : mg "enumerate" = none
  z_bool : mg "bool" = none
  z_str : mg "str" = none
  t_LEAST_PLACES : Tok
  g_LEAST_PLACES : mg "LEAST_PLACES" = some (.int 2 t_LEAST_PLACES)
  t_MOST_PLACES : Tok
  g_MOST_PLACES : mg "MOST_PLACES" = some (.int 12 t_MOST_PLACES)
  t_MOST_GAP : Tok
  g_MOST_GAP : mg "MOST_GAP" = some (.int 100 t_MOST_GAP)
  t_OWN : Tok
  g_OWN : mg "OWN" = some (.str "own" t_OWN)
end K78

/-! K78u: data in the heap; short words for readings. -/
namespace K78
open PySem PySem.Spec PyProof.Rows L2 Evl
abbrev nV (n : Nat) : V := .int (n : Int)
def oV : Option Nat → V
  | none => .non
  | some n => nV n
def itV : It → V
  | .miss => .non
  | .own => .str "own"
  | .hit n => nV n
theorem exu {H H' : Hp} {a : Addr} {o : HO} (e : Ex H H') (h : H a = some o) : H' a = some o := e a o h
/-- a rule stands at r -/
def RuleAt (H : Hp) (r : Addr) (p : Plan) : Prop := ∃ as : List Addr, H r = some (.lst (as.map V.ref)) ∧ Paired (fun a row => H a = some (.lst (row.map nV))) as p
theorem RuleAt.mono {H H' : Hp} {r : Addr} {p : Plan} (e : Ex H H') (h : RuleAt H r p) : RuleAt H' r p := by
  obtain ⟨as, h1, h2⟩ := h
  exact ⟨as, exu e h1, Paired.mapP h2 fun _ _ z => exu e z⟩
theorem paired_get {α β : Type} {R : α → β → Prop} : ∀ {l : List α} {m : List β}, Paired R l m → ∀ {i : Nat} {y : β}, m[i]? = some y → ∃ x, l[i]? = some x ∧ R x y
  | _, _, .nil, i, y, h => by simp at h
  | _, _, .cons r t, 0, y, h => by
    simp at h
    subst h
    exact ⟨_, rfl, r⟩
  | _, _, .cons r t, i + 1, y, h => by
    obtain ⟨x, h1, h2⟩ := paired_get t (i := i) (y := y) (by simpa using h)
    exact ⟨x, by simpa using h1, h2⟩
theorem paired_len {α β : Type} {R : α → β → Prop} : ∀ {l : List α} {m : List β}, Paired R l m → l.length = m.length
  | _, _, .nil => rfl
  | _, _, .cons r t => by rw [List.length_cons, List.length_cons, paired_len t]
theorem RuleAt.row {H : Hp} {r : Addr} {p : Plan} (h : RuleAt H r p) {i : Nat} (hi : i < p.length) : ∃ as : List Addr, H r = some (.lst (as.map V.ref)) ∧ as.length = p.length ∧ ∃ a, as[i]? = some a ∧ H a = some (.lst ((p.getD i []).map nV)) := by
  obtain ⟨as, h1, h2⟩ := h
  obtain ⟨a, e1, e2⟩ := paired_get h2 (List.getElem?_eq_getElem hi)
  refine ⟨as, h1, paired_len h2, a, e1, ?_⟩
  rw [getD_of hi]
  exact e2
theorem RuleAt.lst {H : Hp} {r : Addr} {p : Plan} (h : RuleAt H r p) : ∃ xs : List V, H r = some (.lst xs) ∧ xs.length = p.length := by
  obtain ⟨as, h1, h2⟩ := h
  exact ⟨_, h1, by rw [List.length_map, paired_len h2]⟩

/-! ### readings -/
section
variable {K : PySem.W.Frag} {σ : L2.St} {H : Hp} {ta tb tc te : TE} {t u : TT} {x y z v : V}
theorem ev_isN (h : Ev ta σ H x) : Ev (tIsN ta) σ H (.bl (decide (x = .non))) := fun H1 e _ q => h H1 e _ fun H2 e2 => q H2 e2
theorem ev_notN (h : Ev ta σ H x) : Ev (tNotN ta) σ H (.bl (!decide (x = .non))) := fun H1 e _ q => h H1 e _ fun H2 e2 => q H2 e2
theorem ev_isi {c : V} {t u : Value} {b : Bool} {tb : TE} (ha : Ev ta σ H x) (hb : Ev tb σ H c) (k : ClsV c u) (ty : ∀ H1, Ex H H1 → TyX K H1 x t) (e : PySem.W.kitOne K t u = some b) : Ev (tCB (rIsi K) (tCons ta (tCons tb tNil))) σ H (.bl b) := fun H1 e1 Q q =>
  ha H1 e1 _ fun H2 e2 => hb H2 (e1.trans e2) _ fun H3 e3 => ⟨x, c, t, u, b, rfl, k, ty H3 ((e1.trans e2).trans e3), e, q H3 (e2.trans e3)⟩
theorem rv_in (h : flatV x = true) {p : Addr} {xs : List V} (hp : H p = some (.lst xs)) (ha : xs.all flatV = true) : RV (rIn K false) x (.ref p) H (.bl (inV x xs)) := rv_isL (sq_of hp) h ha
theorem ev_chain {r r' : R2} {b1 b2 : Bool} (ha : Ev ta σ H x) (hb : Ev tb σ H y) (hr : RV r x y H (.bl b1)) (hc : b1 = true → Ev tc σ H z) (hr' : b1 = true → RV r' y z H (.bl b2)) : Ev (tChain r r' ta tb tc) σ H (.bl (b1 && b2)) := fun H1 e Q q =>
  ha H1 e _ fun H2 e2 => hb H2 (e.trans e2) _ fun H3 e3 => hr H3 ((e.trans e2).trans e3) _ fun H4 e4 => ⟨b1, rfl, by
    cases b1 with
    | true =>
      show tc σ H4 fun w' H5 => r' y w' H5 Q
      exact hc rfl H4 (((e.trans e2).trans e3).trans e4) _ fun H5 e5 => hr' rfl H5 ((((e.trans e2).trans e3).trans e4).trans e5) Q fun H6 e6 => q H6 ((((e2.trans e3).trans e4).trans e5).trans e6)
    | false =>
      show Q (.bl false) H4
      exact q H4 ((e2.trans e3).trans e4)⟩
theorem k_ii : kitB "int" "int" = some true := by decide +kernel
theorem k_ib : kitB "int" "bool" = some false := by decide +kernel
theorem k_si : kitB "str" "int" = some false := by decide +kernel
theorem k_ll : kitB "list" "list" = some true := by decide +kernel
theorem k_ss : kitB "str" "str" = some true := by decide +kernel
theorem ty_int {i : Int} : ∀ H1, Ex H H1 → TyX K H1 (.int i) (.type "int") := fun _ _ => .base (.int i)
theorem ty_str {i : Str} : ∀ H1, Ex H H1 → TyX K H1 (.str i) (.type "str") := fun _ _ => .base (.str i)
theorem ty_lst {a : Addr} {xs : List V} (h : H a = some (.lst xs)) : ∀ H1, Ex H H1 → TyX K H1 (.ref a) (.type "list") := fun _ e => .base (.lst (exu e h))
theorem ev_orV1 (h1 : Ev ta σ H (.bl true)) : Ev (tOrV ta tb) σ H (.bl true) := fun H1 e Q q => h1 H1 e _ fun H2 e2 => ⟨true, rfl, q H2 e2⟩
theorem ev_andV0 (h1 : Ev ta σ H (.bl false)) : Ev (tAndV ta tb) σ H (.bl false) := fun H1 e Q q => h1 H1 e _ fun H2 e2 => ⟨false, rfl, q H2 e2⟩
theorem et_or1 (h1 : EvT t σ H true) : EvT (tOr t u) σ H true := fun H1 e Q q => h1 H1 e _ fun H2 e2 => q H2 e2
theorem et_and0 (h1 : EvT t σ H false) : EvT (tAnd t u) σ H false := fun H1 e Q q => h1 H1 e _ fun H2 e2 => q H2 e2
theorem et_tru {b c : Bool} (h : EvT t σ H b) (e : b = c) : EvT t σ H c := e ▸ h
/-! ### new lists -/
theorem el_is {xs ys : List V} (h : EvL te σ H xs) (e : xs = ys) : EvL te σ H ys := e ▸ h
theorem et_yes : EvT tYes σ H true := fun H1 _ _ q => q H1 (Ex.refl H1)
theorem ev_allN {bs : List Bool} (ha : EvL ta σ H (bs.map V.bl)) : Ev (tCB (rAll K) (tCons ta tNil)) σ H (.bl (bs.all id)) := fun H1 e Q q =>
  ha H1 e _ fun p H2 _ e2 h2 => ⟨p, bs, rfl, sq_of h2, q H2 e2⟩
theorem map_nV (l : List Nat) : l.map nV = (l.map fun (n : Nat) => (n : Int)).map V.int := by
  rw [List.map_map]
  rfl
theorem sorted_nat {l l' : List Nat} (hp : l'.Perm l) (hs : l'.Pairwise (· ≤ ·)) {ns : List Int} (h1 : ns.Perm (l.map fun (n : Nat) => (n : Int))) (h2 : ns.Pairwise (· ≤ ·)) : ns.map V.int = l'.map nV := by
  rw [map_nV]
  congr 1
  refine List.Perm.eq_of_pairwise (fun a b _ _ x y => Int.le_antisymm x y) h2 ?_ (h1.trans (hp.map _).symm)
  rw [List.pairwise_map]
  exact hs.imp fun h => Int.ofNat_le.mpr h
theorem el_sorted {a : Addr} {l l' : List Nat} (ha : Ev ta σ H (.ref a)) (h : H a = some (.lst (l.map nV))) (hz : l.length < 64) (hp : l'.Perm l) (hs : l'.Pairwise (· ≤ ·)) : EvL (tCB (rSorted K) (tCons ta tNil)) σ H (l'.map nV) := fun H1 e Q q =>
  ha H1 e _ fun H2 e2 => ⟨a, l.map fun (n : Nat) => (n : Int), rfl, by rw [← map_nV]; exact sq_of (exu (e.trans e2) h), by rw [List.length_map]; exact hz, fun ns p h1 h2 hp' =>
    q p _ (fresh_back e2 hp') (e2.trans (Ex.new hp')) (by rw [← sorted_nat hp hs h1 h2]; exact upd_same)⟩
theorem el_sortedN {l l' : List Nat} (ha : EvL ta σ H (l.map nV)) (hz : l.length < 64) (hp : l'.Perm l) (hs : l'.Pairwise (· ≤ ·)) : EvL (tCB (rSorted K) (tCons ta tNil)) σ H (l'.map nV) := fun H1 e Q q =>
  ha H1 e _ fun a H2 _ e2 h => ⟨a, l.map fun (n : Nat) => (n : Int), rfl, by rw [← map_nV]; exact sq_of h, by rw [List.length_map]; exact hz, fun ns p h1 h2 hp' =>
    q p _ (fresh_back e2 hp') (e2.trans (Ex.new hp')) (by rw [← sorted_nat hp hs h1 h2]; exact upd_same)⟩
theorem rgV_nat (a n : Nat) : rgV (a : Int) ((a + n : Nat) : Int) = (List.range n).map fun i => nV (a + i) := by
  unfold rgV
  rw [show (((a + n : Nat) : Int) - (a : Int)).toNat = n by omega]
  rfl
theorem el_listRg1 {k : Nat} (ha : Ev ta σ H (nV k)) (hk : k ≤ 100000) : EvL (tLstRg (tRg1 ta)) σ H ((List.range k).map nV) := fun H1 e Q q =>
  ha H1 e _ fun H2 e2 => ⟨(k : Int), rfl, RgOk.of_le (by omega) (by omega) (by omega) (by omega), fun p hp => q p _ (fresh_back e2 hp) (e2.trans (Ex.new hp)) (by
    rw [upd_same]
    have z := rgV_nat 0 k
    rw [Nat.zero_add] at z
    rw [show ((0 : Nat) : Int) = 0 from rfl] at z
    rw [z]
    simp)⟩
theorem el_listRg2 {a n : Nat} (ha : Ev ta σ H (nV a)) (hb : Ev tb σ H (nV (a + n))) (hk : a + n ≤ 100000) : EvL (tLstRg (tRg2 ta tb)) σ H ((List.range n).map fun i => nV (a + i)) := fun H1 e Q q =>
  ha H1 e _ fun H2 e2 => hb H2 (e.trans e2) _ fun H3 e3 => ⟨(a : Int), ((a + n : Nat) : Int), rfl, rfl, RgOk.of_le (by omega) (by omega) (by omega) (by omega), fun p hp => q p _ (fresh_back (e2.trans e3) hp) ((e2.trans e3).trans (Ex.new hp)) (by
    rw [upd_same, rgV_nat])⟩
/-! ### == of data -/
theorem dp_ints : ∀ ns : List Int, DpAll K H (ns.map V.int) (ns.map PyData.int)
  | [] => .nil
  | n :: ns => .cons (.int n) (dp_ints ns)
theorem dp_nats : ∀ ns : List Nat, DpAll K H (ns.map nV) (ns.map fun (n : Nat) => PyData.int n)
  | [] => .nil
  | n :: ns => .cons (.int n) (dp_nats ns)
theorem lay_ints : ∀ ns : List Int, PyData.canLayAll0 (ns.map PyData.int) = true
  | [] => by simp [PyData.canLayAll0]
  | n :: ns => by simp [PyData.canLayAll0, PyData.canLay0, lay_ints ns]
theorem depth_ints : ∀ ns : List Int, PyData.depthAll (ns.map PyData.int) ≤ 1
  | [] => by simp [PyData.depthAll]
  | n :: ns => by
    have h := depth_ints ns
    simp only [List.map_cons, PyData.depthAll, PyData.depth]
    omega
theorem shaped_of {d : PyData} (h1 : d.canLay0 = true) (h2 : d.depth ≤ 64) : SeqAt.shaped d = true := by
  show (d.canLay0 && decide (d.depth ≤ 64)) = true
  rw [h1, decide_eq_true h2]
  rfl
theorem shaped_ints (ns : List Int) : SeqAt.shaped (.list (ns.map PyData.int)) = true := by
  have h := depth_ints ns
  refine shaped_of ?_ ?_
  · simp only [PyData.canLay0]
    exact lay_ints ns
  · simp only [PyData.depth]
    omega
theorem nats_ints (ns : List Nat) : (ns.map fun (n : Nat) => PyData.int n) = (ns.map fun (n : Nat) => (n : Int)).map PyData.int := by
  rw [List.map_map]
  rfl
theorem shaped_nats (ns : List Nat) : SeqAt.shaped (.list (ns.map fun (n : Nat) => PyData.int n)) = true := by
  rw [nats_ints]
  exact shaped_ints _
theorem eqvAll_ints : ∀ ns ms : List Int, PyData.eqvAll (ns.map PyData.int) (ms.map PyData.int) = decide (ns = ms)
  | [], [] => by simp [PyData.eqvAll]
  | [], m :: ms => by simp [PyData.eqvAll]
  | n :: ns, [] => by simp [PyData.eqvAll]
  | n :: ns, m :: ms => by
    rw [List.map_cons, List.map_cons, PyData.eqvAll, eqvAll_ints ns ms, PyData.eqv]
    by_cases e : n = m
    · subst e
      simp
    · simp [e]
theorem eqv_ints (ns ms : List Int) : PyData.eqv (.list (ns.map PyData.int)) (.list (ms.map PyData.int)) = decide (ns = ms) := by
  rw [PyData.eqv]
  exact eqvAll_ints ns ms
theorem eqv_nats (ns ms : List Nat) : PyData.eqv (.list (ns.map fun (n : Nat) => PyData.int n)) (.list (ms.map fun (n : Nat) => PyData.int n)) = decide (ns = ms) := by
  rw [nats_ints, nats_ints, eqv_ints]
  have inj : Function.Injective (fun n : Nat => (n : Int)) := fun a b h => Int.ofNat.inj h
  by_cases e : ns = ms
  · subst e
    simp
  · rw [decide_eq_false e]
    exact decide_eq_false fun z => e ((List.map_inj_right fun a b h => inj h).mp z)
theorem rv_eqN {p q : Addr} {ns ms : List Nat} (h1 : H p = some (.lst (ns.map nV))) (h2 : H q = some (.lst (ms.map nV))) : RV (rEqD K) (.ref p) (.ref q) H (.bl (decide (ns = ms))) := fun H1 e _ k =>
  ⟨_, _, .lst (sq_of (exu e h1)) (dp_nats ns), .lst (sq_of (exu e h2)) (dp_nats ms), shaped_nats ns, shaped_nats ms, by rw [eqv_nats]; exact k H1 (Ex.refl H1)⟩
theorem rv_neN {p q : Addr} {ns ms : List Nat} (h1 : H p = some (.lst (ns.map nV))) (h2 : H q = some (.lst (ms.map nV))) : RV (rNeD K) (.ref p) (.ref q) H (.bl (!decide (ns = ms))) := fun H1 e _ k =>
  ⟨_, _, .lst (sq_of (exu e h1)) (dp_nats ns), .lst (sq_of (exu e h2)) (dp_nats ms), shaped_nats ns, shaped_nats ms, by rw [eqv_nats]; exact k H1 (Ex.refl H1)⟩
/-! ### comprehensions over lists of plain data -/
theorem given_take {α : Type} (l : List α) (g : α → Bool) (d : α → V) : ∀ n, n ≤ l.length → given n (fun i => (l[i]?.map g).getD false) (fun i => (l[i]?.map d).getD .non) = ((l.take n).filter g).map d
  | 0, _ => by simp [given]
  | n + 1, h => by
    have hn : n < l.length := by omega
    have e : l[n]? = some l[n] := List.getElem?_eq_getElem hn
    have ih := given_take l g d n (by omega)
    rw [List.take_add_one, e]
    cases hg : g l[n] with
    | true =>
      rw [given_yes (by rw [e]; exact hg), ih, List.filter_append, List.map_append]
      simp [e, hg]
    | false =>
      rw [given_no (by rw [e]; exact hg), ih, List.filter_append, List.map_append]
      simp [hg]
theorem el_lcF {α : Type} {a : Addr} {l : List α} {tl : TE} {j : Nat} {vs : List Nat} (c d : α → V) (g : α → Bool) (h : Ev tl σ H (.ref a)) (hx : H a = some (.lst (l.map c))) (hz : l.length ≤ 40000) (hw : ∀ x, wipe ((wipe σ vs).set j (some x)) vs = wipe σ vs)
    (ht : ∀ x ∈ l, ∀ H1, Ex H H1 → EvT t ((wipe σ vs).set j (some (c x))) H1 (g x)) (he : ∀ x ∈ l, ∀ H1, Ex H H1 → g x = true → Ev te ((wipe σ vs).set j (some (c x))) H1 (d x)) :
    EvL (tLc (iList K tl) (gName j) t te vs) σ H ((l.filter g).map d) := by
  have key := el_lcL (K := K) (t := t) (te := te) (fun i => (l[i]?.map g).getD false) (fun i => (l[i]?.map d).getD .non) h (sq_of hx) (by rw [List.length_map]; exact hz) hw (fun i x H1 e1 hi => by
    rw [List.getElem?_map] at hi
    cases e : l[i]? with
    | none => rw [e] at hi; cases hi
    | some y =>
      rw [e] at hi
      have ey := Option.some.inj hi
      subst ey
      exact ht y (List.mem_of_getElem? e) H1 e1) (fun i x H1 e1 hi hf => by
    rw [List.getElem?_map] at hi
    cases e : l[i]? with
    | none => rw [e] at hi; cases hi
    | some y =>
      rw [e] at hi hf
      have ey := Option.some.inj hi
      subst ey
      exact he y (List.mem_of_getElem? e) H1 e1 hf)
  rw [List.length_map, given_take l g d l.length (Nat.le_refl _), List.take_length] at key
  exact key
theorem el_lcFN {α : Type} {l : List α} {tl : TE} {j : Nat} {vs : List Nat} (c d : α → V) (g : α → Bool) (h : EvL tl σ H (l.map c)) (hz : l.length ≤ 40000) (hw : ∀ x, wipe ((wipe σ vs).set j (some x)) vs = wipe σ vs)
    (ht : ∀ x ∈ l, ∀ H1, Ex H H1 → EvT t ((wipe σ vs).set j (some (c x))) H1 (g x)) (he : ∀ x ∈ l, ∀ H1, Ex H H1 → g x = true → Ev te ((wipe σ vs).set j (some (c x))) H1 (d x)) :
    EvL (tLc (iList K tl) (gName j) t te vs) σ H ((l.filter g).map d) := by
  have key := el_lcNL (K := K) (t := t) (te := te) (fun i => (l[i]?.map g).getD false) (fun i => (l[i]?.map d).getD .non) h (by rw [List.length_map]; exact hz) hw (fun i x H1 e1 hi => by
    rw [List.getElem?_map] at hi
    cases e : l[i]? with
    | none => rw [e] at hi; cases hi
    | some y =>
      rw [e] at hi
      have ey := Option.some.inj hi
      subst ey
      exact ht y (List.mem_of_getElem? e) H1 e1) (fun i x H1 e1 hi hf => by
    rw [List.getElem?_map] at hi
    cases e : l[i]? with
    | none => rw [e] at hi; cases hi
    | some y =>
      rw [e] at hi hf
      have ey := Option.some.inj hi
      subst ey
      exact he y (List.mem_of_getElem? e) H1 e1 hf)
  rw [List.length_map, given_take l g d l.length (Nat.le_refl _), List.take_length] at key
  exact key
/-- over range(n) -/
theorem el_lcRg {tl : TA} {n : Nat} {j : Nat} {vs : List Nat} (d : Nat → V) (g : Nat → Bool) (h : EvA tl σ H [nV n]) (hz : n ≤ 40000) (hw : ∀ x, wipe ((wipe σ vs).set j (some x)) vs = wipe σ vs)
    (ht : ∀ i, i < n → ∀ H1, Ex H H1 → EvT t ((wipe σ vs).set j (some (nV i))) H1 (g i)) (he : ∀ i, i < n → ∀ H1, Ex H H1 → g i = true → Ev te ((wipe σ vs).set j (some (nV i))) H1 (d i)) :
    EvL (tLc (iRng1 tl) (gName j) t te vs) σ H (((List.range n).filter g).map d) :=
  el_lcR1 (n := (n : Int)) g d h (by omega) hw (fun i H1 e hi => ht i (by omega) H1 e) (fun i H1 e hi hf => he i (by omega) H1 e hf)
/-! ### values with what is true of them -/
def EvP (te : TE) (σ : L2.St) (H : Hp) (Po : V → Hp → Prop) : Prop := ∀ H1, Ex H H1 → ∀ Q : VK, (∀ v H2, Ex H1 H2 → Po v H2 → Q v H2) → te σ H1 Q
def RetP (Po : V → Hp → Prop) (H : Hp) (Q : VK) : Prop := ∀ v H2, Ex H H2 → Po v H2 → Q v H2
def SpP (sp : Sp) (vs : List V) (H : Hp) (Po : V → Hp → Prop) : Prop := ∀ H1, Ex H H1 → ∀ Q : VK, (∀ v H2, Ex H1 H2 → Po v H2 → Q v H2) → ∀ E : XK, sp vs H1 Q E
theorem evp_call {sp : Sp} {dvs vs : List V} {E : XK} {tr : TA} {Po : V → Hp → Prop} (h : EvA tr σ H vs) (hs : SpP sp (vs ++ dvs) H Po) : EvP (tCall sp dvs E tr) σ H Po := fun H1 e Q q =>
  h H1 e _ fun H2 e2 => hs H2 (e.trans e2) Q (fun v H3 e3 h3 => q v H3 (e2.trans e3) h3) E
variable {D : Ends} {tu tw tz : TS}
theorem q_asgP {i : Nat} {Po : V → Hp → Prop} (h : EvP te σ H Po) (k : ∀ v H1, Ex H H1 → Po v H1 → tz D (σ.set i (some v)) H1) : tSeq (tAsg te (gName i)) tz D σ H := h H (Ex.refl H) _ fun v H1 e p => k v H1 e p
theorem s_retP {Po : V → Hp → Prop} {Q : VK} (hD : D.rt = Q) (h : EvP te σ H Po) (k : RetP Po H Q) : tRet te D σ H := h H (Ex.refl H) _ fun v H1 e p => hD ▸ k v H1 e p
/-- a call whose value is thrown away -/
theorem q_call {sp : Sp} {dvs vs : List V} {E : XK} {tr : TA} (h : EvA tr σ H vs) (hs : SpV sp (vs ++ dvs) H v) (k : ∀ H1, Ex H H1 → tz D σ H1) : tSeq (tDrop (tCall sp dvs E tr)) tz D σ H := q_drop (ev_call h hs) k
theorem q_par {i j : Nat} {tr : TA} (h : EvA tr σ H [x, y]) (k : ∀ H1, Ex H H1 → tz D ((σ.set i (some x)).set j (some y)) H1) : tSeq (tPar i j tr) tz D σ H := h H (Ex.refl H) _ fun H1 e => ⟨x, y, rfl, k H1 e⟩
/-- the answer is what is promised -/
theorem s_retV {D : Ends} {Q : VK} (hD : D.rt = Q) (h : Ev te σ H v) (k : RetV v H Q) : tRet te D σ H := s_ret h fun H1 e => hD ▸ k H1 e
theorem retL_of {D : Ends} {xs : List V} {Q : VK} (hD : D.rt = Q) (h : EvL te σ H xs) (k : RetL xs H Q) : tRet te D σ H := s_retL h fun p H1 hp e h1 => hD ▸ k p H1 hp e h1
theorem s_forEnum {a : Addr} {xs : List V} {tr : TA} {j1 j2 : Nat} (h : EvA tr σ H [.ref a]) (hx : H a = some (.lst xs)) (Pv : Nat → L2.St → Hp → Prop) (h0 : ∀ H1, Ex H H1 → Pv 0 σ H1) (hl : ∀ i σ' H', Pv i σ' H' → H' a = some (.lst xs))
    (hs : ∀ i x σ' H' H2, xs[i]? = some x → Pv i σ' H' → Ex H' H2 → tu { D with nx := Pv (i + 1), ct := Pv (i + 1), bk := D.nx } ((σ'.set j1 (some (nV i))).set j2 (some x)) H2) (hd : ∀ σ' H', Pv xs.length σ' H' → D.nx σ' H') :
    tFor (iEnum K tr) (gTup K 2 (gCons (gName j1) (gCons (gName j2) gNil))) tu D σ H := h H (Ex.refl H) _ fun H1 e => ⟨a, xs, rfl, sq_of (exu e hx), by
  refine ⟨fun i m σ H => m = xs.length - i ∧ i ≤ xs.length ∧ Pv i σ H, ⟨xs.length, by simp, Nat.zero_le _, h0 H1 e⟩, ?_⟩
  rintro i m σ H ⟨rfl, hi, p⟩
  have q := hl i σ H p
  by_cases hlt : i < xs.length
  · refine .inr ⟨⟨xs, xs[i], sq_of q, by simp [hlt]⟩, Pv (i + 1), fun σ' H' p' => ⟨xs.length - (i + 1), by omega, rfl, hlt, p'⟩, fun v H' y => ?_⟩
    obtain ⟨T, x, rfl, nT, rfl, hy⟩ := y
    exact ⟨T, [nV i, x], rfl, st_of upd_same, rfl, nV i, [x], rfl, x, [], rfl, rfl, hs i x σ H _ (hy xs (sq_of q)) p (Ex.new nT)⟩
  · have e : i = xs.length := by omega
    subst e
    exact .inl ⟨⟨xs, sq_of q, Nat.le_refl _⟩, hd σ H p⟩⟩
/-- if a test that fails -/
theorem q_ifno (h : EvT t σ H false) (k : ∀ H1, Ex H H1 → tz D σ H1) : tSeq (tIfS t tu tNext) tz D σ H := q_when h (fun z => Bool.noConfusion z) fun _ H1 e => k H1 e
theorem s_ifno (h : EvT t σ H false) (k : ∀ H1, Ex H H1 → D.nx σ H1) : tIfS t tu tNext D σ H := s_when h (fun z => Bool.noConfusion z) fun _ H1 e => k H1 e
theorem ev_bits {i : Int} (h : Ev ta σ H (.int i)) : Ev (tBits ta) σ H (nV (Builtin.Int.intBits i)) := fun H1 e Q q => h H1 e _ fun H2 e2 => ⟨i, rfl, q H2 e2⟩
/-- rule[i][j] -/
theorem ev_rule {r : Addr} {p : Plan} {i j : Nat} (ok : RuleOk p) (hR : RuleAt H r p) (ha : Ev ta σ H (.ref r)) (hb : Ev tb σ H (nV i)) (hc : Ev tc σ H (nV j)) (hi : i < p.length) (hj : j < p.length) : Ev (tOp (rIxL K) (tOp (rIxL K) ta tb) tc) σ H (nV (rg p i j)) := by
  obtain ⟨as, h1, h2, a, e1, h3⟩ := hR.row hi
  refine ev_op (ev_op ha hb (rv_ixL (sq_of h1) (atI_nat (v := .ref a) (by rw [List.getElem?_map, e1]; rfl)))) hc (rv_ixL (sq_of h3) (atI_nat ?_))
  have hl := ok.rlen hi
  unfold rg
  rw [List.getElem?_map, List.getElem?_eq_getElem (by omega), getD_of (show j < (p.getD i []).length by omega)]
  rfl
theorem cpow1 {x : Nat} (h : x < 1000) : CPow 1 (x : Int) := ⟨by omega, by omega, by decide⟩
theorem evl_call {sp : Sp} {dvs vs : List V} {xs : List V} {E : XK} {tr : TA} (h : EvA tr σ H vs) (hs : SpL sp (vs ++ dvs) H xs) : EvL (tCall sp dvs E tr) σ H xs := el_call h hs
theorem len_rule {r : Addr} {p : Plan} (hR : RuleAt H r p) (ha : Ev ta σ H (.ref r)) : Ev (tCB (rLenS K) (tCons ta tNil)) σ H (nV p.length) := by
  obtain ⟨xs, h1, h2⟩ := hR.lst
  exact ev_is (ev_len ha (sq_of h1)) (by rw [h2])
/-- loops over a new list of plain data whose turns change names alone: S by the turn; N what a turn is to reach -/
theorem s_forPN {α : Type} {l : List α} {c : α → V} {tl : TE} {j : Nat} (h : EvL tl σ H (l.map c)) (S : Nat → L2.St → Prop) (h0 : S 0 σ)
    (hs : ∀ (N : L2.St → Hp → Prop) i x σ' H', l[i]? = some x → S i σ' → Ex H H' → (∀ σ2 H2, S (i + 1) σ2 → Ex H' H2 → N σ2 H2) → tu { D with nx := N, ct := N, bk := D.nx } (σ'.set j (some (c x))) H')
    (hd : ∀ σ' H', S l.length σ' → Ex H H' → D.nx σ' H') : tFor (iList K tl) (gName j) tu D σ H :=
  s_forNL h (fun p i σ2 H2 => H2 p = some (.lst (l.map c)) ∧ S i σ2 ∧ Ex H H2) (fun p H1 _ e hp => ⟨hp, h0, e⟩) (fun p i σ' H' _ q => sq_of q.1) (fun p i x σ' H' hx q => by
    rw [List.getElem?_map] at hx
    cases e : l[i]? with
    | none => rw [e] at hx; cases hx
    | some y =>
      rw [e] at hx
      have ey := Option.some.inj hx
      subst ey
      exact hs _ i y σ' H' e q.2.1 q.2.2 fun σ2 H2 z1 z2 => ⟨exu z2 q.1, z1, q.2.2.trans z2⟩) (fun p σ' H' q => hd σ' H' (by have z := q.2.1; rw [List.length_map] at z; exact z) q.2.2)
theorem s_forP {α : Type} {a : Addr} {l : List α} {c : α → V} {tl : TE} {j : Nat} (h : Ev tl σ H (.ref a)) (ha : H a = some (.lst (l.map c))) (S : Nat → L2.St → Prop) (h0 : S 0 σ)
    (hs : ∀ (N : L2.St → Hp → Prop) i x σ' H', l[i]? = some x → S i σ' → Ex H H' → (∀ σ2 H2, S (i + 1) σ2 → Ex H' H2 → N σ2 H2) → tu { D with nx := N, ct := N, bk := D.nx } (σ'.set j (some (c x))) H')
    (hd : ∀ σ' H', S l.length σ' → Ex H H' → D.nx σ' H') : tFor (iList K tl) (gName j) tu D σ H :=
  s_forL h (sq_of ha) (fun i σ2 H2 => S i σ2 ∧ Ex H H2) (fun H1 e => ⟨h0, e⟩) (fun i σ' H' _ q => sq_of (exu q.2 ha)) (fun i x σ' H' hx q => by
    rw [List.getElem?_map] at hx
    cases e : l[i]? with
    | none => rw [e] at hx; cases hx
    | some y =>
      rw [e] at hx
      have ey := Option.some.inj hx
      subst ey
      exact hs _ i y σ' H' e q.1 q.2 fun σ2 H2 z1 z2 => ⟨z1, q.2.trans z2⟩) (fun σ' H' q => hd σ' H' (by have z := q.1; rw [List.length_map] at z; exact z) q.2)
theorem s_forR {tl : TA} {n j : Nat} (h : EvA tl σ H [nV n]) (hn : n ≤ 100000) (S : Nat → L2.St → Prop) (h0 : S 0 σ)
    (hs : ∀ (N : L2.St → Hp → Prop) i σ' H', i < n → S i σ' → Ex H H' → (∀ σ2 H2, S (i + 1) σ2 → Ex H' H2 → N σ2 H2) → tu { D with nx := N, ct := N, bk := D.nx } (σ'.set j (some (nV i))) H')
    (hd : ∀ σ' H', S n σ' → Ex H H' → D.nx σ' H') : tFor (iRng1 tl) (gName j) tu D σ H :=
  s_forR1 (n := (n : Int)) h (by omega) (fun i σ2 H2 => S i σ2 ∧ Ex H H2) (fun H1 e => ⟨h0, e⟩) (fun i σ' H' hi q => hs _ i σ' H' (by omega) q.1 q.2 fun σ2 H2 z1 z2 => ⟨z1, q.2.trans z2⟩) fun σ' H' q => hd σ' H' (by have z := q.1; rwa [Int.toNat_natCast] at z) q.2
theorem q_unp2 {i j : Nat} (h : EvU te σ H [x, y]) (k : ∀ H1, Ex H H1 → tz D ((σ.set i (some x)).set j (some y)) H1) : tSeq (tAsg te (gTup K 2 (gCons (gName i) (gCons (gName j) gNil)))) tz D σ H :=
  h H (Ex.refl H) _ fun p H1 _ e hp => ⟨p, [x, y], rfl, st_of hp, rfl, x, [y], rfl, y, [], rfl, rfl, k H1 e⟩
theorem s_forRX {tl : TA} {n j : Nat} {Po : Hp → Prop} (h : ∀ R : List V → Hp → Prop, (∀ H1, Po H1 → R [nV n] H1) → tl σ H R) (hn : n ≤ 100000) (Pv : Nat → L2.St → Hp → Prop) (h0 : ∀ H1, Po H1 → Pv 0 σ H1)
    (hs : ∀ i σ' H', i < n → Pv i σ' H' → tu { D with nx := Pv (i + 1), ct := Pv (i + 1), bk := D.nx } (σ'.set j (some (nV i))) H') (hd : ∀ σ' H', Pv n σ' H' → D.nx σ' H') : tFor (iRng1 tl) (gName j) tu D σ H :=
  h _ fun H1 e => ⟨(n : Int), rfl, by omega, by omega, for_range (lo := 0) (n := ((n : Nat) : Int).toNat) Pv (h0 H1 e) (fun i σ' H' hi p => by
    rw [Int.toNat_natCast] at hi
    have e0 : (0 : Int) + (i : Int) = (i : Int) := Int.zero_add _
    show tu { D with nx := Pv (i + 1), ct := Pv (i + 1), bk := D.nx } (σ'.set j (some (.int ((0 : Int) + (i : Int))))) H'
    rw [e0]
    exact hs i σ' H' hi p) fun σ' H' p => hd σ' H' (by rwa [Int.toNat_natCast] at p)⟩
theorem q_forRX {tl : TA} {n j : Nat} {Po : Hp → Prop} (h : ∀ R : List V → Hp → Prop, (∀ H1, Po H1 → R [nV n] H1) → tl σ H R) (hn : n ≤ 100000) (Pv : Nat → L2.St → Hp → Prop) (h0 : ∀ H1, Po H1 → Pv 0 σ H1)
    (hs : ∀ i σ' H', i < n → Pv i σ' H' → tu { D with nx := Pv (i + 1), ct := Pv (i + 1), bk := tz D } (σ'.set j (some (nV i))) H') (hd : ∀ σ' H', Pv n σ' H' → tz D σ' H') : tSeq (tFor (iRng1 tl) (gName j) tu) tz D σ H := s_forRX (D := { D with nx := tz D }) h hn Pv h0 hs hd
theorem q_forP {α : Type} {a : Addr} {l : List α} {c : α → V} {tl : TE} {j : Nat} (h : Ev tl σ H (.ref a)) (ha : H a = some (.lst (l.map c))) (S : Nat → L2.St → Prop) (h0 : S 0 σ)
    (hs : ∀ (N : L2.St → Hp → Prop) i x σ' H', l[i]? = some x → S i σ' → Ex H H' → (∀ σ2 H2, S (i + 1) σ2 → Ex H' H2 → N σ2 H2) → tu { D with nx := N, ct := N, bk := tz D } (σ'.set j (some (c x))) H')
    (hd : ∀ σ' H', S l.length σ' → Ex H H' → tz D σ' H') : tSeq (tFor (iList K tl) (gName j) tu) tz D σ H := s_forP (D := { D with nx := tz D }) h ha S h0 hs hd
theorem q_forPN {α : Type} {l : List α} {c : α → V} {tl : TE} {j : Nat} (h : EvL tl σ H (l.map c)) (S : Nat → L2.St → Prop) (h0 : S 0 σ)
    (hs : ∀ (N : L2.St → Hp → Prop) i x σ' H', l[i]? = some x → S i σ' → Ex H H' → (∀ σ2 H2, S (i + 1) σ2 → Ex H' H2 → N σ2 H2) → tu { D with nx := N, ct := N, bk := tz D } (σ'.set j (some (c x))) H')
    (hd : ∀ σ' H', S l.length σ' → Ex H H' → tz D σ' H') : tSeq (tFor (iList K tl) (gName j) tu) tz D σ H := s_forPN (D := { D with nx := tz D }) h S h0 hs hd
theorem q_forR {tl : TA} {n j : Nat} (h : EvA tl σ H [nV n]) (hn : n ≤ 100000) (S : Nat → L2.St → Prop) (h0 : S 0 σ)
    (hs : ∀ (N : L2.St → Hp → Prop) i σ' H', i < n → S i σ' → Ex H H' → (∀ σ2 H2, S (i + 1) σ2 → Ex H' H2 → N σ2 H2) → tu { D with nx := N, ct := N, bk := tz D } (σ'.set j (some (nV i))) H')
    (hd : ∀ σ' H', S n σ' → Ex H H' → tz D σ' H') : tSeq (tFor (iRng1 tl) (gName j) tu) tz D σ H := s_forR (D := { D with nx := tz D }) h hn S h0 hs hd
end
end K78

/-! K78v: dicts of objects; an object that changes. -/
namespace K78
open PySem PySem.Spec PyProof.Rows L2 Evl
section
variable {κ α : Type} [DecidableEq κ]
/-- the pairs kvs: for each x of l the key kf x, and an object of which vf holds -/
def KvAt (kf : α → κ) (vf : Hp → Addr → α → Prop) (H : Hp) (kvs : List (κ × V)) (l : List α) : Prop := Paired (fun kv x => kv.1 = kf x ∧ ∃ t, kv.2 = V.ref t ∧ vf H t x) kvs l
variable {kf : α → κ} {vf : Hp → Addr → α → Prop} {H H2 : Hp} {kvs : List (κ × V)} {l : List α}
theorem KvAt.len (h : KvAt kf vf H kvs l) : kvs.length = l.length := paired_len h
theorem KvAt.mono (h : KvAt kf vf H kvs l) (k : ∀ t x, vf H t x → vf H2 t x) : KvAt kf vf H2 kvs l := Paired.mapP h fun _ _ ⟨e, t, e2, z⟩ => ⟨e, t, e2, k t _ z⟩
theorem KvAt.get (h : KvAt kf vf H kvs l) (nd : (l.map kf).Nodup) {x : α} (hx : x ∈ l) : ∃ t, valV kvs (kf x) = some (.ref t) ∧ vf H t x := by
  unfold KvAt at h
  induction h with
  | nil => cases hx
  | @cons kv y ks ys h1 h2 ih =>
    obtain ⟨e, t, e2, z⟩ := h1
    rw [List.map_cons, List.nodup_cons] at nd
    rcases List.mem_cons.mp hx with rfl | hx
    · exact ⟨t, by rw [valV_pos e, e2], z⟩
    · have ne : ¬ kv.1 = kf x := fun q => nd.1 (by rw [← e, q]; exact List.mem_map.mpr ⟨x, hx, rfl⟩)
      obtain ⟨t', q1, q2⟩ := ih nd.2 hx
      exact ⟨t', by rw [valV_neg ne, q1], q2⟩
theorem KvAt.none (h : KvAt kf vf H kvs l) {k : κ} (hk : k ∉ l.map kf) : valV kvs k = none := by
  unfold KvAt at h
  induction h with
  | nil => rfl
  | @cons kv y ks ys h1 h2 ih =>
    rw [List.map_cons, List.mem_cons, not_or] at hk
    have ne : ¬ kv.1 = k := fun q => hk.1 (by rw [← q, h1.1])
    rw [valV_neg ne, ih hk.2]
theorem paired_snoc {β γ : Type} {R : β → γ → Prop} : ∀ {xs : List β} {ys : List γ} {x : β} {y : γ}, Paired R xs ys → R x y → Paired R (xs ++ [x]) (ys ++ [y])
  | _, _, _, _, .nil, r => .cons r .nil
  | _, _, _, _, .cons h t, r => .cons h (paired_snoc t r)
theorem KvAt.put (h : KvAt kf vf H kvs l) {x : α} {t : Addr} (hk : kf x ∉ l.map kf) (hx : vf H t x) : KvAt kf vf H (putK kvs (kf x) (.ref t)) (l ++ [x]) := by
  rw [putK_new _ (h.none hk)]
  exact paired_snoc h ⟨rfl, t, rfl, hx⟩
end
/-- all stands but what stands at d -/
def del (H : Hp) (d : Addr) : Hp := fun a => if a = d then none else H a
theorem del_ne {H : Hp} {d a : Addr} (h : a ≠ d) : del H d a = H a := if_neg h
theorem del_same {H : Hp} {d : Addr} : del H d d = none := if_pos rfl
theorem del_of {H : Hp} {d a : Addr} {o : HO} (h : del H d a = some o) : a ≠ d ∧ H a = some o := by
  unfold del at h
  by_cases e : a = d
  · rw [if_pos e] at h
    cases h
  · rw [if_neg e] at h
    exact ⟨e, h⟩
theorem del_ex {H : Hp} {d : Addr} : Ex (del H d) H := fun a o h => (del_of h).2
theorem del_put {H : Hp} {d a : Addr} {o : HO} (h : H a = some o) (ne : a ≠ d) : del H d a = some o := by
  rw [del_ne ne]
  exact h
theorem ex_upd {H H' : Hp} {d : Addr} {o : HO} (e : Ex (del H d) H') : Ex (del H d) (upd H' d o) := fun a u h => by
  rw [upd_ne (del_of h).1]
  exact e a u h
theorem ex_del {H H' : Hp} {d : Addr} (e : Ex H H') : Ex (del H d) (del H' d) := fun a u h => del_put (e a u (del_of h).2) (del_of h).1
theorem ex_del2 {H H' : Hp} {d : Addr} (e : Ex (del H d) H') : Ex (del H d) (del H' d) := fun a u h => del_put (e a u h) (del_of h).1
theorem RuleAt.del {H : Hp} {r d : Addr} {p : Plan} (h : RuleAt H r p) (hd : ∀ xs, H d ≠ some (.lst xs)) : RuleAt (del H d) r p := by
  obtain ⟨as, h1, h2⟩ := h
  exact ⟨as, del_put h1 fun e => hd _ (e ▸ h1), Paired.mapP h2 fun _ _ z => del_put z fun e => hd _ (e ▸ z)⟩
section
variable {K : PySem.W.Frag} {σ : L2.St} {H : Hp} {ta tb te : TE} {tr : TA} {xs ys : List V}
theorem ea_starL (h : EvL te σ H xs) (hr : EvA tr σ H ys) : EvA (StX.tStar K te tr) σ H (xs ++ ys) := fun H1 e Q q =>
  h H1 e _ fun p H2 _ e2 hp => ⟨p, xs, rfl, .inr (sq_of hp), hr H2 (e.trans e2) _ fun H3 e3 => q H3 (e2.trans e3)⟩
theorem ea_star {p : Addr} (h : Ev te σ H (.ref p)) (hp : H p = some (.lst xs)) (hr : EvA tr σ H ys) : EvA (StX.tStar K te tr) σ H (xs ++ ys) := fun H1 e Q q =>
  h H1 e _ fun H2 e2 => ⟨p, xs, rfl, .inr (sq_of (exu (e.trans e2) hp)), hr H2 (e.trans e2) _ fun H3 e3 => q H3 (e2.trans e3)⟩
end
end K78

/-! K78y: comprehensions that make objects; loops over lists of pairs. -/
namespace K78
open PySem PySem.Spec PyProof.Rows L2 Evl
section
variable {K : PySem.W.Frag} {σ : L2.St} {H : Hp} {ta tb te : TE} {t u : TT} {tr : TA} {xs ys : List V} {D : Ends} {tu tz : TS}
/-- a new object -/
def EvO (te : TE) (σ : L2.St) (H : Hp) (o : HO) : Prop := ∀ H1, Ex H H1 → ∀ Q : VK, (∀ p H2, H1 p = none → Ex H1 H2 → H2 p = some o → Q (.ref p) H2) → te σ H1 Q
def ObsAt (H : Hp) (l : Addr) (os : List HO) : Prop := ∃ as : List Addr, H l = some (.lst (as.map V.ref)) ∧ Paired (fun a o => H a = some o) as os
theorem evp_lcR {tl : TA} {n j : Nat} {vs : List Nat} (d : Nat → HO) (g : Nat → Bool) (h : EvA tl σ H [nV n]) (hz : n ≤ 40000) (hw : ∀ x, wipe ((wipe σ vs).set j (some x)) vs = wipe σ vs)
    (ht : ∀ i, i < n → ∀ H1, Ex H H1 → EvT t ((wipe σ vs).set j (some (nV i))) H1 (g i)) (he : ∀ i, i < n → ∀ H1, Ex H H1 → g i = true → EvO te ((wipe σ vs).set j (some (nV i))) H1 (d i)) :
    EvP (tLc (iRng1 tl) (gName j) t te vs) σ H (fun v H' => ∃ l, v = .ref l ∧ ObsAt H' l (((List.range n).filter g).map d)) := fun H0 e Q q => h H0 e _ fun H1 e1 => ⟨(n : Int), rfl, by omega, by omega, fun Dl hD =>
  lc_range (lo := 0) (n := ((n : Nat) : Int).toNat) (fun i H' => Ex H1 H' ∧ ∃ as : List Addr, H' Dl = some (.lst (as.map V.ref)) ∧ (∀ a ∈ as, a ≠ Dl) ∧ Paired (fun a o => H' a = some o) as (((List.range i).filter g).map d))
    ⟨Ex.new hD, [], upd_same, (fun _ z => nomatch z), .nil⟩ (fun i H' hi ⟨e2, as, h1, h2, h3⟩ => by
      rw [Int.toNat_natCast] at hi
      have e0 : (0 : Int) + (i : Int) = (i : Int) := Int.zero_add _
      show wipe ((wipe σ vs).set j (some (.int ((0 : Int) + (i : Int))))) vs = wipe σ vs ∧ t ((wipe σ vs).set j (some (.int ((0 : Int) + (i : Int))))) H' _
      rw [e0]
      refine ⟨hw _, ht i hi H' ((e.trans e1).trans e2) H' (Ex.refl _) _ fun H3 e3 => ?_⟩
      rw [List.range_succ, List.filter_append, List.filter_cons]
      have h3' : Paired (fun a o => H3 a = some o) as (((List.range i).filter g).map d) := Paired.mapP h3 fun _ _ z => exu e3 z
      cases hg : g i with
      | true =>
        show te _ H3 _
        refine he i hi H' ((e.trans e1).trans e2) hg H3 e3 _ fun p H4 np e4 hp => ?_
        have hl := paired_len h3
        have h1' := exu (e3.trans e4) h1
        have nD : p ≠ Dl := fun z => by
          rw [z, exu e3 h1] at np
          cases np
        rw [List.length_map] at hl
        have hfl := List.length_filter_le g (List.range i)
        rw [List.length_range] at hfl
        refine ⟨_, h1', by rw [List.length_map]; exact sz_lt (by omega), ((e2.trans e3).trans e4).mut hD, as ++ [p], ?_, ?_, ?_⟩
        · rw [upd_same, List.map_append]
          rfl
        · intro a ha
          rcases List.mem_append.mp ha with z | z
          · exact h2 a z
          · rw [List.mem_singleton.mp z]
            exact nD
        · rw [if_pos rfl, List.map_append]
          refine paired_snoc ?_ (by rw [upd_ne nD]; exact hp)
          have : ∀ {as : List Addr} {os : List HO}, Paired (fun a o => H3 a = some o) as os → (∀ a ∈ as, a ≠ Dl) → Paired (fun a o => (upd H4 Dl (.lst ((as.map V.ref) ++ [V.ref p]))) a = some o) as os → True := fun _ _ _ => trivial
          have key : ∀ {bs : List Addr} {os : List HO} {o' : HO}, Paired (fun a o => H3 a = some o) bs os → (∀ a ∈ bs, a ≠ Dl) → Paired (fun a o => (upd H4 Dl o') a = some o) bs os := by
            intro bs os o' hp
            induction hp with
            | nil => intro _; exact .nil
            | cons r _ ih =>
              intro hb
              exact .cons (by rw [upd_ne (hb _ List.mem_cons_self)]; exact exu e4 r) (ih fun a ha => hb a (List.mem_cons_of_mem _ ha))
          exact key h3' h2
      | false =>
        show Ex H1 H3 ∧ _
        refine ⟨e2.trans e3, as, exu e3 h1, h2, ?_⟩
        rw [if_neg (by decide), List.filter_nil, List.append_nil]
        exact h3') fun H' ⟨e2, as, h1, h2, h3⟩ => by
      rw [Int.toNat_natCast] at h3
      exact q (.ref Dl) H' (e1.trans e2) ⟨Dl, rfl, as, h1, h3⟩⟩
/-- a list of pairs (item, place) -/
abbrev mvO (x : It × Option Nat) : HO := .tup [itV x.1, oV x.2]
theorem s_forMv {xs : List (It × Option Nat)} {j1 j2 : Nat} (h : EvP te σ H (fun v H' => ∃ l, v = .ref l ∧ ObsAt H' l (xs.map mvO))) (Pv : Hp → Nat → L2.St → Hp → Prop) (h0 : ∀ Hb, Ex H Hb → Pv Hb 0 σ Hb) (hne : xs ≠ [])
    (hl : ∀ Hb i σ' H', Ex H Hb → Pv Hb i σ' H' → (∀ a u, Hb a = some (.tup u) → H' a = some (.tup u)) ∧ ∀ a ts, ts ≠ [] → Hb a = some (.lst (ts.map V.ref)) → H' a = some (.lst (ts.map V.ref)))
    (hs : ∀ Hb i x σ' H', Ex H Hb → xs[i]? = some x → Pv Hb i σ' H' → tu { D with nx := Pv Hb (i + 1), ct := Pv Hb (i + 1), bk := D.nx } ((σ'.set j1 (some (itV x.1))).set j2 (some (oV x.2))) H') (hd : ∀ Hb σ' H', Ex H Hb → Pv Hb xs.length σ' H' → D.nx σ' H') :
    tFor (iList K te) (gTup K 2 (gCons (gName j1) (gCons (gName j2) gNil))) tu D σ H := h H (Ex.refl H) _ fun v Hb e ⟨l, ev, as, h1, h2⟩ => by
  subst ev
  have hlen : as.length = xs.length := by rw [paired_len h2, List.length_map]
  have hne' : as ≠ [] := fun z => hne (List.length_eq_zero_iff.mp (by rw [← hlen, z]; rfl))
  refine ⟨l, rfl, ⟨_, sq_of h1⟩, for_list (xs := as.map V.ref) (Pv Hb) (h0 Hb e) (fun i σ' H' _ p => sq_of ((hl Hb i σ' H' e p).2 l as hne' h1)) (fun i x σ' H' hx p => ?_) fun σ' H' p => hd Hb σ' H' e (by rw [List.length_map, hlen] at p; exact p)⟩
  rw [List.getElem?_map] at hx
  obtain ⟨a, ha, rfl⟩ := Option.map_eq_some_iff.mp hx
  have hi : i < xs.length := by
    have := (List.getElem?_eq_some_iff.mp ha).1
    omega
  obtain ⟨a', q1, q2⟩ := paired_get h2 (i := i) (y := mvO xs[i]) (by rw [List.getElem?_map, List.getElem?_eq_getElem hi]; rfl)
  rw [ha] at q1
  cases q1
  exact ⟨a, [itV xs[i].1, oV xs[i].2], rfl, st_of ((hl Hb i σ' H' e p).1 a _ q2), rfl, _, [_], rfl, _, [], rfl, rfl, hs Hb i xs[i] σ' H' e (List.getElem?_eq_getElem hi) p⟩
end
section
variable {K : PySem.W.Frag} {σ : L2.St} {H : Hp} {te : TE} {tr : TA} {us ys : List V} {D : Ends}
/-- return [(..), *ys] -/
theorem s_retLU (h : EvU te σ H us) (hr : EvA tr σ H ys) (hz : ys.length < 100000) (k : ∀ t p H2, Ex H H2 → H2 t = some (.tup us) → H2 p = some (.lst (.ref t :: ys)) → D.rt (.ref p) H2) : tRet (tLst (tCons te tr)) D σ H :=
  h H (Ex.refl H) _ fun t H1 _ e1 ht => hr H1 e1 _ fun H2 e2 => ⟨by rw [List.length_cons]; exact sz_of (by omega), fun p np => k t p _ ((e1.trans e2).trans (Ex.new np)) (exu (Ex.new np) (exu e2 ht)) upd_same⟩
end
theorem len2 {x y : V} : [x, y].length ≤ 100000 := by show 2 ≤ 100000; decide
/-! ### the rules with K named (within comprehensions) -/
section
variable {X : Cx} {K : PySem.W.Frag}
theorem ix_listK (h : X.K = K) : IxR X (rIxL K) := h ▸ ix_list
theorem ix_tupK (h : X.K = K) : IxR X (rIxT K) := h ▸ ix_tup
theorem call_isiKK (h : X.K = K) : CallR X (.builtin "isinstance") (rIsi K) := h ▸ call_isi
theorem op_in_seqK (h : X.K = K) : OpR X (compareOp .In) (rIn K false) := h ▸ op_in_seq
theorem op_notIn_seqK (h : X.K = K) : OpR X (compareOp .NotIn) (rIn K true) := h ▸ op_notIn_seq
theorem call_len_seqK (h : X.K = K) : CallR X (.builtin "len") (rLenS K) := h ▸ call_len_seq
theorem call_list_ofK (h : X.K = K) : CallR X (.type "list") (rListS K) := h ▸ call_list_of
end
end K78

/-! K78z: a search's dict of ways. -/
namespace K78
open PySem PySem.Spec PyProof.Rows L2 Evl
def del2 (H : Hp) (d la : Addr) : Hp := del (del H d) la
theorem del2_of {H : Hp} {d la a : Addr} {o : HO} (h : del2 H d la a = some o) : a ≠ d ∧ a ≠ la ∧ H a = some o := by
  obtain ⟨h1, h2⟩ := del_of h
  obtain ⟨h3, h4⟩ := del_of h2
  exact ⟨h3, h1, h4⟩
theorem del2_put {H : Hp} {d la a : Addr} {o : HO} (h : H a = some o) (n1 : a ≠ d) (n2 : a ≠ la) : del2 H d la a = some o := del_put (del_put h n1) n2
theorem del2_ex {H : Hp} {d la : Addr} : Ex (del2 H d la) H := fun a o h => (del2_of h).2.2
/-- what does not know d and la is kept -/
theorem ex_del2f {H H' : Hp} {d la : Addr} (e : Ex H H') (h1 : H d = none) (h2 : H la = none) : Ex H (del2 H' d la) := fun a o h => del2_put (e a o h) (ne_of_none h h1) (ne_of_none h h2)
theorem del2_mono {H H' : Hp} {d la : Addr} (e : Ex (del2 H d la) H') : Ex (del2 H d la) (del2 H' d la) := fun a o h => del2_put (e a o h) (del2_of h).1 (del2_of h).2.1
def vfL {κ : Type} (H : Hp) (t : Addr) (x : κ × List It) : Prop := H t = some (.lst (x.2.map itV))
def vfA {κ : Type} (la : Addr) (H : Hp) (t : Addr) (x : κ × List It) : Prop := H t = some (.lst (x.2.map itV)) ∧ t ≠ la
section
variable {κ γ : Type} [DecidableEq κ] {kf : γ × List It → κ} {mk : List (κ × V) → HO} {H H' : Hp} {d la z : Addr} {kvs : List (κ × V)} {ws : Ws γ} {l0 l1 : List V} {x : γ × List It}
theorem KvAt.map {vf vf' : Hp → Addr → γ × List It → Prop} (h : KvAt kf vf H kvs ws) (k : ∀ t x, vf H t x → vf' H' t x) : KvAt kf vf' H' kvs ws := Paired.mapP h fun _ _ ⟨e, t, e2, z⟩ => ⟨e, t, e2, k t _ z⟩
/-- a list is made that the ways do not know -/
theorem ways_fresh (h : KvAt kf vfL H kvs ws) (n : H la = none) (e : Ex H H') : KvAt kf (vfA la) H' kvs ws := h.map fun t x hx => ⟨exu e hx, ne_of_none hx n⟩
theorem ways_ex (h : KvAt kf (vfA la) H kvs ws) (e : Ex H H') : KvAt kf (vfA la) H' kvs ws := h.map fun t x hx => ⟨exu e hx.1, hx.2⟩
theorem ways_back (h : KvAt kf (vfA la) H kvs ws) : KvAt kf vfL H kvs ws := h.map fun t x hx => hx.1
/-- ways[k] = its; later.append(k) -/
theorem ways_put (hmk : ∀ kvs xs, mk kvs ≠ .lst xs) (hd : H' d = some (mk kvs)) (hk : KvAt kf (vfA la) H' kvs ws) (nz : H' z = none) (hla : H' la = some (.lst l0)) (hx : kf x ∉ ws.map kf) :
    (upd (upd (upd H' z (.lst (x.2.map itV))) d (mk (putK kvs (kf x) (.ref z)))) la (.lst l1)) d = some (mk (putK kvs (kf x) (.ref z))) ∧
    KvAt kf (vfA la) (upd (upd (upd H' z (.lst (x.2.map itV))) d (mk (putK kvs (kf x) (.ref z)))) la (.lst l1)) (putK kvs (kf x) (.ref z)) (ws ++ [x]) ∧
    (∀ Hb, Ex (del2 Hb d la) H' → Ex (del2 Hb d la) (upd (upd (upd H' z (.lst (x.2.map itV))) d (mk (putK kvs (kf x) (.ref z)))) la (.lst l1))) ∧
    (upd H' z (.lst (x.2.map itV))) d = some (mk kvs) ∧ (upd (upd H' z (.lst (x.2.map itV))) d (mk (putK kvs (kf x) (.ref z)))) la = some (.lst l0) := by
  have dz : d ≠ z := ne_of_none hd nz
  have lz : la ≠ z := ne_of_none hla nz
  have ld : la ≠ d := fun e => by
    rw [e, hd] at hla
    exact hmk _ _ (Option.some.inj hla)
  have keep : ∀ t xs, H' t = some (.lst xs) → t ≠ la → (upd (upd (upd H' z (.lst (x.2.map itV))) d (mk (putK kvs (kf x) (.ref z)))) la (.lst l1)) t = some (.lst xs) := fun t xs ht hn => by
    have td : t ≠ d := fun e => by
      rw [e, hd] at ht
      exact hmk _ _ (Option.some.inj ht)
    rw [upd_ne hn, upd_ne td, upd_ne (ne_of_none ht nz)]
    exact ht
  refine ⟨by rw [upd_ne ld.symm, upd_same], (hk.mono fun t y hy => ⟨keep t _ hy.1 hy.2, hy.2⟩).put hx ⟨by rw [upd_ne lz.symm, upd_ne dz.symm, upd_same], lz.symm⟩, fun Hb e a o h => ?_, by rw [upd_ne dz]; exact hd, by rw [upd_ne ld, upd_ne lz]; exact hla⟩
  obtain ⟨h1, h2, h3⟩ := del2_of h
  rw [upd_ne h2, upd_ne h1, upd_ne (ne_of_none (e a o h) nz)]
  exact e a o h
end
theorem nats_refs {l : List Nat} {ts : List Addr} (h : ts ≠ []) : l.map nV ≠ ts.map V.ref := fun e => by
  cases ts with
  | nil => exact h rfl
  | cons t ts =>
    cases l with
    | nil => cases e
    | cons x l => cases e
end K78

/-! K78w1: is_integer, is_permutation_of, check_rule. -/
namespace K78
open PySem PySem.Spec PyProof.Rows L2 Evl
local macro_rules | `(tactic| walk_at "sq") => `(tactic| first | exact sq_of (by assumption) | assumption)
local macro_rules | `(tactic| walk_at "at") => `(tactic| first | exact atI_nat (by assumption) | assumption)
local macro_rules | `(tactic| walk_at "side") => `(tactic| first | assumption | exact ⟨by decide, by decide⟩ | decide | omega)
local macro_rules | `(tactic| walk_at "rv") => `(tactic| first
  | exact rv_I0
  | exact rv_eq rfl
  | exact rv_ne rfl
  | (refine' rv_ixL ?h ?a; (case h => walk_at "sq"); (case a => walk_at "at"))
  | (refine' rv_I ?c; (case c => walk_at "side")))
local macro_rules | `(tactic| walk_at "ev") => `(tactic| first
  | exact ev_var rfl
  | exact ev_c
  | (refine' ev_isi ?a ?b (.ty _) ?c ?d; (case a => walk_at "ev"); (case b => walk_at "ev"); (case c => first | exact ty_int | exact ty_str | exact ty_lst (by assumption)); (case d => first | exact kit_ty k_ii | exact kit_ty k_ib | exact kit_ty k_si | exact kit_ty k_ll | exact kit_ty k_ss))
  | (refine' ev_op ?a ?b ?c; (case a => walk_at "ev"); (case b => walk_at "ev"); (case c => walk_at "rv"))
  | (refine' ev_un ?a ?b; (case a => walk_at "ev"); (case b => exact ru_neg))
  | (refine' ev_isN ?a; (case a => walk_at "ev"))
  | (refine' ev_notN ?a; (case a => walk_at "ev"))
  | (refine' ev_orV1 (ev_is ?a ?b); (case a => walk_at "ev"); (case b => decide))
  | (refine' ev_andV0 (ev_is ?a ?b); (case a => walk_at "ev"); (case b => decide))
  | (refine' ev_andV ?a ?b; (case a => walk_at "ev"); (case b => intro _; walk_at "ev"))
  | (refine' ev_orV ?a ?b; (case a => walk_at "ev"); (case b => intro _; walk_at "ev"))
  | (refine' ev_notV ?a; (case a => walk_at "ev"))
  | (refine' ev_len ?a ?b; (case a => walk_at "ev"); (case b => walk_at "sq"))
  | (refine' ev_chain ?a ?b ?c ?d ?e; (case a => walk_at "ev"); (case b => walk_at "ev"); (case c => walk_at "rv"); (case d => intro _; walk_at "ev"); (case e => intro _; walk_at "rv")))
local macro_rules | `(tactic| walk_at "et") => `(tactic| first
  | (refine' et_test ?a; (case a => walk_at "ev"))
  | (refine' et_B ?a; (case a => walk_at "ev"))
  | (refine' et_not ?a; (case a => walk_at "et"))
  | (refine' et_or1 (et_is ?a ?b); (case a => walk_at "et"); (case b => decide))
  | (refine' et_and0 (et_is ?a ?b); (case a => walk_at "et"); (case b => decide))
  | (refine' et_and ?a ?b; (case a => walk_at "et"); (case b => intro _; walk_at "et"))
  | (refine' et_or ?a ?b; (case a => walk_at "et"); (case b => intro _; walk_at "et")))
section
variable {P : Program} {w : World} {K : PySem.W.Frag} {mg : Str → Option Value} {base : Heap}
def isI : V → V → V → Option Bool
  | .int _, .non, .non => some true
  | .int i, .int a, .int b => some (decide (a ≤ i) && decide (i ≤ b))
  | .str _, .non, .non => some false
  | _, _, _ => none
theorem isI_cases {x a b : V} {r : Bool} (h : isI x a b = some r) : (∃ i, x = .int i ∧ a = .non ∧ b = .non ∧ r = true) ∨ (∃ i j k, x = .int i ∧ a = .int j ∧ b = .int k ∧ r = (decide (j ≤ i) && decide (i ≤ k))) ∨ ∃ i, x = .str i ∧ a = .non ∧ b = .non ∧ r = false := by
  unfold isI at h
  split at h
  · exact .inl ⟨_, rfl, rfl, rfl, (Option.some.inj h).symm⟩
  · exact .inr (.inl ⟨_, _, _, rfl, rfl, rfl, (Option.some.inj h).symm⟩)
  · exact .inr (.inr ⟨_, rfl, rfl, rfl, (Option.some.inj h).symm⟩)
  · cases h
def sp_is_integer : Sp := fun vs H Q _ => ∃ x a b r, vs = [x, a, b] ∧ isI x a b = some r ∧ RetV (.bl r) H Q
theorem ok_is_integer (T : Tx K mg) : FnOk P w K mg base CX0 1 T.a_is_integer T.d_is_integer ["value", "least", "most"] sp_is_integer := by
  refine T.h_is_integer.F.ok sc_is_integer (fun vs H Q E h => ?_) (fun cdv A outer s H vs Q E hr h => ?_)
  · obtain ⟨x, a, b, r, rfl, _⟩ := h
    rfl
  · obtain ⟨x, a, b, r, rfl, e, k⟩ := h
    refine ⟨_, (pss_cons (ps_if (PW.pt (pw_or (pt_not (pt_val (pe_callB (call_isiKK (K := K) rfl) (by rfl) T.z_isinstance (by decide +kernel) (pa_cons (pv 0) (pa_cons (pe_bltn (v := .ty "int") (by rfl) T.z_int (by decide +kernel) rfl) pa_nil))))) (pw_or1 (pt_val (pe_callB (call_isiKK (K := K) rfl) (by rfl) T.z_isinstance (by decide +kernel) (pa_cons (pv 0) (pa_cons (pe_bltn (v := .ty "bool") (by rfl) T.z_bool (by decide +kernel) rfl) pa_nil)))))))
      (pss_one (ps_ret pe_bl))
      pss_nil)
      (pss_one (ps_ret (pe_and (pe_or (pe_cmp (pc_isN (pv 1)) rfl) (pe_one (pe_cmpR op_ge (pv 0) (pv 1) (nomark _)))) (pe_one (pe_or (pe_cmp (pc_isN (pv 2)) rfl) (pe_one (pe_cmpR op_le (pv 0) (pv 2) (nomark _))))))))), ?_⟩
    rcases isI_cases e with ⟨i, rfl, rfl, rfl, rfl⟩ | ⟨i, j, l, rfl, rfl, rfl, rfl⟩ | ⟨i, rfl, rfl, rfl, rfl⟩
    · refine q_when (b := false) (et_is (by walk_at "et") (by decide)) (fun z => Bool.noConfusion z) fun _ H1 e1 => ?_
      exact s_retV rfl (ev_is (by walk_at "ev") (by simp)) fun H2 e2 => k H2 (e1.trans e2)
    · refine q_when (b := false) (et_is (by walk_at "et") (by decide)) (fun z => Bool.noConfusion z) fun _ H1 e1 => ?_
      exact s_retV rfl (ev_is (by walk_at "ev") (by simp)) fun H2 e2 => k H2 (e1.trans e2)
    · refine q_when (b := true) (et_is (by walk_at "et") (by decide)) (fun _ H1 e1 => ?_) fun z => Bool.noConfusion z
      exact s_retV rfl ev_c fun H2 e2 => k H2 (e1.trans e2)
theorem spv_int {x a b : V} {r : Bool} {H : Hp} (h : isI x a b = some r) : SpV sp_is_integer [x, a, b] H (.bl r) := fun H1 _ Q q _ => ⟨x, a, b, r, rfl, h, q⟩
def sp_is_permutation_of : Sp := fun vs H Q _ => ∃ (a : Addr) (l : List Nat) (k : Nat), vs = [.ref a, nV k] ∧ H a = some (.lst (l.map nV)) ∧ l.Perm (List.range k) ∧ k ≤ 12 ∧ RetV (.bl true) H Q
theorem ok_is_permutation_of (T : Tx K mg) : FnOk P w K mg base CX0 2 T.a_is_permutation_of T.d_is_permutation_of ["value", "size"] sp_is_permutation_of := by
  refine T.h_is_permutation_of.F.ok sc_is_permutation_of (fun vs H Q E h => ?_) (fun cdv A outer s H vs Q E hr h => ?_)
  · obtain ⟨a, l, k, rfl, _⟩ := h
    rfl
  · obtain ⟨a, l, n, rfl, ha, hp, hn, k⟩ := h
    have hl : l.length = n := by rw [hp.length_eq, List.length_range]
    refine ⟨_, (pss_cons (ps_if (PW.pt (pw_or (pt_not (pt_val (pe_callB (call_isiKK (K := K) rfl) (by rfl) T.z_isinstance (by decide +kernel) (pa_cons (pv 0) (pa_cons (pe_bltn (v := .ty "list") (by rfl) T.z_list (by decide +kernel) rfl) pa_nil))))) (pw_or (pt_cmpR op_ne (pe_callB (call_len_seqK (K := K) rfl) (by rfl) T.z_len PySem.boot_len (pa_cons (pv 0) pa_nil)) (pv 1) (nomark _)) (pw_or1 (pt_not (pt_val (pe_callB (cr_all rfl) (by rfl) T.z_all (by decide +kernel) (pa_cons (pe_lc (own := [("item", 2)]) (g := gName 2) (tt := tYes) rfl sc_is_permutation_of.nd (pi_list (pv 0)) (blkOk_by (own := [("item", 2)]) (N := ["value", "size", "item"]) (sc := defScope s_is_permutation_of) (by decide +kernel)) (fun _ _ _ _ _ => pg_name (i := 2) sc_is_permutation_of.nd rfl (.inl rfl)) (fun _ _ _ _ _ => pts_nil) (fun _ _ _ _ _ => (pe_call (ok_is_integer T) (hr.mono (by decide)) (by rfl) T.h_is_integer.g T.h_is_integer.kp T.h_is_integer.b1 T.h_is_integer.v1 pass0 (pa_cons (pv 2) pa_nil)))) pa_nil))))))))
      (pss_one (ps_ret pe_bl))
      pss_nil)
      (pss_one (ps_ret (pe_cmpR (op_eqD hr.units) (pe_callB cr_sorted (by rfl) T.z_sorted (by decide +kernel) (pa_cons (pv 0) pa_nil)) (pe_listRg rfl rfl T.z_list (prg_1 rfl T.z_range (pv 1))) (nomark _))))), ?_⟩
    have hlen : (l.map nV).length = n := by rw [List.length_map, hl]
    refine q_ifno (et_is (et_or (et_not (et_B (by walk_at "ev"))) fun _ => et_or (b := false) (et_is (by walk_at "et") (b := false) ?_) fun _ => et_is (et_not (et_B (ev_allN (bs := List.replicate n true) (el_is (el_lcF (l := l) nV (fun _ => .bl true) (fun _ => true) (ev_var rfl) ha (by omega) (fun _ => rfl) (fun _ _ _ _ => et_yes)
      (fun x hx H1 e1 _ => ev_call (ea_cons (ev_var rfl) ea_nil) (spv_int rfl))) ?_)))) ?_) (by decide)) fun H1 e1 => ?_
    · rw [hlen]
      simp
    · rw [List.filter_eq_self.mpr (fun _ _ => rfl), List.map_const', hl, List.map_replicate]
    · simp
    · refine s_retV rfl (ev_is (ev_opLL (el_sorted (ev_var rfl) (exu e1 ha) (by omega) hp.symm (List.pairwise_lt_range.imp fun h => Nat.le_of_lt h)) (el_listRg1 (ev_var rfl) (by omega)) fun p q H2 h1 h2 e2 => rv_eqN h1 h2) ?_) fun H2 e2 => k H2 (e1.trans e2)
      simp
def sp_check_rule : Sp := fun vs H Q _ => ∃ (a : Addr) (p : Plan), vs = [.ref a] ∧ RuleAt H a p ∧ RuleOk p ∧ RetV .non H Q
theorem ok_check_rule (T : Tx K mg) : FnOk P w K mg base CX0 3 T.a_check_rule T.d_check_rule ["value"] sp_check_rule := by
  refine T.h_check_rule.F.ok sc_check_rule (fun vs H Q E h => ?_) (fun cdv A outer s H vs Q E hr h => ?_)
  · obtain ⟨a, p, rfl, _⟩ := h
    rfl
  · obtain ⟨a, p, rfl, hR, ok, k⟩ := h
    obtain ⟨as, ha, hp⟩ := hR
    have hlen : (as.map V.ref).length = p.length := by rw [List.length_map, paired_len hp]
    have h2 := ok.lo
    have h5 := ok.hi
    refine ⟨_, (pss_cons (ps_if (PW.pt (pw_or (pt_not (pt_val (pe_callB (call_isiKK (K := K) rfl) (by rfl) T.z_isinstance (by decide +kernel) (pa_cons (pv 0) (pa_cons (pe_bltn (v := .ty "list") (by rfl) T.z_list (by decide +kernel) rfl) pa_nil))))) (pw_or1 (pt_not (pt_chain op_le op_le (pe_glob (v := .int 2) rfl T.g_LEAST_PLACES ⟨_, rfl⟩) (pe_callB (call_len_seqK (K := K) rfl) (by rfl) T.z_len PySem.boot_len (pa_cons (pv 0) pa_nil)) (pe_glob (v := .int 12) rfl T.g_MOST_PLACES ⟨_, rfl⟩))))))
      (pss_one ps_never)
      pss_nil)
      (pss_one (ps_for PassesOwn.never rfl (pi_enum (by rfl) T.z_enumerate (pa_cons (pv 0) pa_nil)) (pg_tup rfl (pgs_cons (pg_name (i := 1) sc_check_rule.nd rfl (.inl rfl)) (pgs_cons (pg_name (i := 2) sc_check_rule.nd rfl (.inl rfl)) pgs_nil)))
      (pss_one (ps_if (pt_not (pt_val (pe_call (ok_is_permutation_of T) (hr.mono (by decide)) (by rfl) T.h_is_permutation_of.g T.h_is_permutation_of.kp T.h_is_permutation_of.b .nil pass0 (pa_cons (pv 2) (pa_cons (pe_callB (call_len_seqK (K := K) rfl) (by rfl) T.z_len PySem.boot_len (pa_cons (pv 0) pa_nil)) pa_nil)))))
      (pss_one ps_never)
      pss_nil))))), ?_⟩
    refine q_ifno (et_is (by walk_at "et") ?_) fun H1 e1 => ?_
    · rw [hlen]
      simp
      omega
    · refine s_forEnum (ea_cons (ev_var rfl) ea_nil) (exu e1 ha) (fun i σ H' => ∃ x y, σ = [some (.ref a), x, y] ∧ Ex H H') (fun H2 e2 => ⟨none, none, rfl, e1.trans e2⟩) (fun i σ' H' ⟨_, _, _, e⟩ => exu e ha) ?_ fun σ' H' ⟨_, _, _, e⟩ => k H' e
      rintro i x σ' H' H2 hx ⟨y1, y2, rfl, e⟩ e2
      have hi : i < p.length := by
        have := (List.getElem?_eq_some_iff.mp hx).1
        omega
      obtain ⟨b, eb, hb⟩ := paired_get hp (List.getElem?_eq_getElem hi)
      rw [List.getElem?_map, eb] at hx
      have ex := Option.some.inj hx
      subst ex
      have ha2 := exu (e.trans e2) ha
      refine s_ifno (et_is (et_not (et_B (ev_call (ea_cons (ev_var rfl) (ea_cons (ev_is (by walk_at "ev") (by rw [hlen])) ea_nil)) fun H3 e3 Q3 q3 _ => ⟨b, p[i], p.length, rfl, exu ((e.trans e2).trans e3) hb, ok.row _ (List.getElem_mem hi), by omega, q3⟩))) (by decide)) fun H3 e3 => ?_
      exact ⟨_, _, rfl, (e.trans e2).trans e3⟩
end
end K78

/-! K78w2: places_of, mask_behind, all_places. -/
namespace K78
open PySem PySem.Spec PyProof.Rows L2 Evl
local macro_rules | `(tactic| walk_at "sq") => `(tactic| first | exact sq_of (by assumption) | assumption)
local macro_rules | `(tactic| walk_at "at") => `(tactic| first | exact atI_nat (by assumption) | assumption)
local macro_rules | `(tactic| walk_at "side") => `(tactic| first | assumption | exact ⟨by decide, by decide⟩ | decide | omega)
local macro_rules | `(tactic| walk_at "rv") => `(tactic| first
  | exact rv_I0
  | exact rv_eq rfl
  | exact rv_ne rfl
  | (refine' rv_ixL ?h ?a; (case h => walk_at "sq"); (case a => walk_at "at"))
  | (refine' rv_I ?c; (case c => walk_at "side")))
local macro_rules | `(tactic| walk_at "ev") => `(tactic| first
  | exact ev_var rfl
  | exact ev_c
  | (refine' ev_isi ?a ?b (.ty _) ?c ?d; (case a => walk_at "ev"); (case b => walk_at "ev"); (case c => first | exact ty_int | exact ty_str | exact ty_lst (by assumption)); (case d => first | exact kit_ty k_ii | exact kit_ty k_ib | exact kit_ty k_si | exact kit_ty k_ll | exact kit_ty k_ss))
  | (refine' ev_op ?a ?b ?c; (case a => walk_at "ev"); (case b => walk_at "ev"); (case c => walk_at "rv"))
  | (refine' ev_un ?a ?b; (case a => walk_at "ev"); (case b => exact ru_neg))
  | (refine' ev_isN ?a; (case a => walk_at "ev"))
  | (refine' ev_notN ?a; (case a => walk_at "ev"))
  | (refine' ev_orV1 (ev_is ?a ?b); (case a => walk_at "ev"); (case b => decide))
  | (refine' ev_andV0 (ev_is ?a ?b); (case a => walk_at "ev"); (case b => decide))
  | (refine' ev_andV ?a ?b; (case a => walk_at "ev"); (case b => intro _; walk_at "ev"))
  | (refine' ev_orV ?a ?b; (case a => walk_at "ev"); (case b => intro _; walk_at "ev"))
  | (refine' ev_notV ?a; (case a => walk_at "ev"))
  | (refine' ev_len ?a ?b; (case a => walk_at "ev"); (case b => walk_at "sq"))
  | (refine' ev_chain ?a ?b ?c ?d ?e; (case a => walk_at "ev"); (case b => walk_at "ev"); (case c => walk_at "rv"); (case d => intro _; walk_at "ev"); (case e => intro _; walk_at "rv")))
local macro_rules | `(tactic| walk_at "et") => `(tactic| first
  | (refine' et_test ?a; (case a => walk_at "ev"))
  | (refine' et_B ?a; (case a => walk_at "ev"))
  | (refine' et_not ?a; (case a => walk_at "et"))
  | (refine' et_or1 (et_is ?a ?b); (case a => walk_at "et"); (case b => decide))
  | (refine' et_and0 (et_is ?a ?b); (case a => walk_at "et"); (case b => decide))
  | (refine' et_and ?a ?b; (case a => walk_at "et"); (case b => intro _; walk_at "et"))
  | (refine' et_or ?a ?b; (case a => walk_at "et"); (case b => intro _; walk_at "et")))
section
variable {P : Program} {w : World} {K : PySem.W.Frag} {mg : Str → Option Value} {base : Heap}
def bitB (m i : Nat) : Bool := decide (V.int (Builtin.bitAnd ((m : Int) / 2 ^ ((i : Nat) : Int).toNat) 1) = V.int 1)
theorem bits_eq : ∀ m : Fin 32, (List.range (Builtin.Int.intBits (m.1 : Int))).filter (bitB m.1) = placesL m.1 := by decide +kernel
theorem bits_le : ∀ m : Fin 32, Builtin.Int.intBits (m.1 : Int) ≤ 5 := by decide +kernel
def sp_places_of : Sp := fun vs H Q _ => ∃ m : Nat, vs = [nV m] ∧ m < 32 ∧ RetL ((placesL m).map nV) H Q
theorem ok_places_of (T : Tx K mg) : FnOk P w K mg base CX0 1 T.a_places_of T.d_places_of ["mask"] sp_places_of := by
  refine T.h_places_of.F.ok sc_places_of (fun vs H Q E h => ?_) (fun cdv A outer s H vs Q E hr h => ?_)
  · obtain ⟨m, rfl, _⟩ := h
    rfl
  · obtain ⟨m, rfl, hm, k⟩ := h
    refine ⟨_, (pss_one (ps_ret (pe_lc (own := [("place", 1)]) (g := gName 1) rfl sc_places_of.nd (pi_range1 rfl T.z_range (pa_cons (pe_bits (pv 0)) pa_nil)) (blkOk_by (own := [("place", 1)]) (N := ["mask", "place"]) (sc := defScope s_places_of) (by decide +kernel)) (fun _ _ _ _ _ => pg_name (i := 1) sc_places_of.nd rfl (.inl rfl)) (fun _ _ _ _ _ => pts_one (pt_cmpR op_eq (pe_op op_and (pe_op op_shr (pv 0) (pv 1)) pe_int) pe_int (nomark _))) (fun _ _ _ _ _ => (pv 1))))), ?_⟩
    have h5 : Builtin.Int.intBits (m : Int) ≤ 5 := bits_le ⟨m, hm⟩
    refine retL_of rfl (el_is (el_lcRg nV (bitB m) (ea_cons (ev_bits (ev_var rfl)) ea_nil) (by omega) (fun _ => rfl) (fun i hi H1 e1 => ?_) fun i hi H1 e1 _ => ev_var rfl) ?_) k
    · walk_at "et"
    · exact congrArg (List.map nV) (bits_eq ⟨m, hm⟩)
theorem spl_places {m : Nat} {H : Hp} (hm : m < 32) : SpL sp_places_of [nV m] H ((placesL m).map nV) := fun H1 _ Q q _ => ⟨m, rfl, hm, q⟩
def sp_all_places : Sp := fun vs H Q _ => ∃ (r : Addr) (p : Plan), vs = [.ref r] ∧ RuleAt H r p ∧ RuleOk p ∧ RetV (nV (full p)) H Q
theorem ok_all_places (T : Tx K mg) : FnOk P w K mg base CX0 1 T.a_all_places T.d_all_places ["rule"] sp_all_places := by
  refine T.h_all_places.F.ok sc_all_places (fun vs H Q E h => ?_) (fun cdv A outer s H vs Q E hr h => ?_)
  · obtain ⟨r, p, rfl, _⟩ := h
    rfl
  · obtain ⟨r, p, rfl, hR, ok, k⟩ := h
    refine ⟨_, (pss_one (ps_ret (pe_op op_sub (pe_op op_shl pe_int (pe_callB (call_len_seqK (K := K) rfl) (by rfl) T.z_len PySem.boot_len (pa_cons (pv 0) pa_nil))) pe_int))), ?_⟩
    have h5 := ok.hi
    refine s_retV rfl (ev_is (ev_op (ev_op ev_c (len_rule hR (ev_var rfl)) (rv_I (cpow1 (by omega)))) ev_c rv_I0) ?_) k
    have : 0 < 2 ^ p.length := Nat.two_pow_pos _
    show V.int (1 * 2 ^ ((p.length : Nat) : Int).toNat - 1) = V.int ((2 ^ p.length - 1 : Nat) : Int)
    rw [Int.toNat_natCast, Int.one_mul, Int.ofNat_sub this]
    simp
def sp_mask_behind : Sp := fun vs H Q _ => ∃ (r : Addr) (p : Plan) (m : Nat) (c : Option Nat), vs = [.ref r, nV m, oV c] ∧ RuleAt H r p ∧ RuleOk p ∧ Msk p m ∧ (∀ x, c = some x → x < p.length) ∧ RetV (nV (mb p m c)) H Q
theorem sumB_snoc (l : List Nat) (x : Nat) : sumB (l ++ [x]) 0 = sumB l 0 + 2 ^ x := by
  unfold sumB
  rw [List.foldl_append]
  rfl
theorem hitL_snoc (p : Plan) (l : List Nat) (c x : Nat) : hitL p (l ++ [x]) c = hitL p l c ++ if x = c then [] else [rg p c x] := by
  unfold hitL
  rw [List.filter_append, List.map_append]
  by_cases e : x = c
  · simp [e]
  · simp [e]
theorem ok_mask_behind (T : Tx K mg) : FnOk P w K mg base CX0 2 T.a_mask_behind T.d_mask_behind ["rule", "mask", "place"] sp_mask_behind := by
  refine T.h_mask_behind.F.ok sc_mask_behind (fun vs H Q E h => ?_) (fun cdv A outer s H vs Q E hr h => ?_)
  · obtain ⟨r, p, m, c, rfl, _⟩ := h
    rfl
  · obtain ⟨r, p, m, c, rfl, hR, ok, hm, hc, k⟩ := h
    refine ⟨_, (pss_cons (ps_if (pt_cmp (pc_isN (pv 2)))
      (pss_one (ps_ret (pe_op op_shr (pv 1) pe_int)))
      pss_nil)
      (pss_cons (ps_set (i := 3) sc_mask_behind.nd rfl (.inl rfl) pe_int)
      (pss_cons (ps_for PassesOwn.never rfl (pi_list (pe_call (ok_places_of T) (hr.mono (by decide)) (by rfl) T.h_places_of.g T.h_places_of.kp T.h_places_of.b .nil pass0 (pa_cons (pv 1) pa_nil))) (pg_name (i := 4) sc_mask_behind.nd rfl (.inl rfl))
      (pss_one (ps_if (pt_cmpR op_ne (pv 4) (pv 2) (nomark _))
      (pss_one (ps_aug (i := 3) sc_mask_behind.nd rfl (.inl rfl) (pe_op op_shl pe_int (pe_ix (ix_listK (K := K) rfl) (pe_ix (ix_listK (K := K) rfl) (pv 0) (pv 2) (fun _ _ => rfl)) (pv 4) (fun _ _ => rfl))) ip_add))
      pss_nil)))
      (pss_one (ps_ret (pv 3)))))), ?_⟩
    have h5 := ok.hi
    cases c with
    | none =>
      refine q_when (b := true) (et_is (by walk_at "et") (by decide)) (fun _ H1 e1 => ?_) fun z => Bool.noConfusion z
      refine s_retV rfl (ev_is (ev_op (ev_var rfl) ev_c (rv_I (by decide))) ?_) fun H2 e2 => k H2 (e1.trans e2)
      show V.int ((m : Int) / 2 ^ (1 : Int).toNat) = V.int ((m / 2 : Nat) : Int)
      rw [show (2 : Int) ^ (1 : Int).toNat = 2 by decide]
      congr 1
    | some c =>
      have hcl := hc c rfl
      refine q_ifno (et_is (by walk_at "et") (by rfl)) fun H1 e1 => ?_
      refine q_asg ev_c fun H2 e2 => ?_
      have hpl := hm.places ok
      refine s_forPN (D := { nx := _, rt := Q }) (evl_call (ea_cons (ev_var rfl) ea_nil) (spl_places (hm.lt ok))) (fun i σ => ∃ y, σ = [some (.ref r), some (nV m), some (nV c), some (nV (sumB (hitL p ((placesL m).take i) c) 0)), y]) ⟨none, rfl⟩ ?_ ?_
      · rintro N i x σ' H' hx ⟨y, rfl⟩ e3 hN
        have hxl : x < p.length := hpl x (List.mem_of_getElem? hx)
        have etake : (placesL m).take (i + 1) = (placesL m).take i ++ [x] := by
          rw [List.take_add_one, hx]
          rfl
        have eR := RuleAt.mono ((e1.trans e2).trans e3) hR
        refine s_when (b := !decide (x = c)) (et_is (by walk_at "et") ?_) (fun hb H4 e4 => ?_) fun hb H4 e4 => ?_
        · congr 1
          simp
          omega
        · refine s_aug rfl (ev_op ev_c (ev_rule ok (eR.mono e4) (ev_var rfl) (ev_var rfl) (ev_var rfl) hcl hxl) (rv_I (cpow1 (by have := ok.rg_lt hcl hxl; omega)))) fun H5 e5 => ?_
          refine hN _ _ ⟨some (nV x), ?_⟩ (e4.trans e5)
          have hne : x ≠ c := by simpa using hb
          rw [etake, hitL_snoc, if_neg hne, sumB_snoc]
          congr 4
          simp
        · have hne : x = c := by simpa using hb
          refine hN _ _ ⟨some (nV x), ?_⟩ e4
          rw [etake, hitL_snoc, if_pos hne, List.append_nil]
          rfl
      · rintro σ' H' ⟨y, rfl⟩ e3
        rw [List.take_length]
        exact s_retV rfl (ev_var rfl) fun H4 e4 => k H4 (((e1.trans e2).trans e3).trans e4)
end
end K78

/-! K78w3: longest_from. -/
namespace K78
open PySem PySem.Spec PyProof.Rows L2 Evl
local macro_rules | `(tactic| walk_at "sq") => `(tactic| first | exact sq_of (by assumption) | assumption)
local macro_rules | `(tactic| walk_at "at") => `(tactic| first | exact atI_nat (by assumption) | assumption)
local macro_rules | `(tactic| walk_at "side") => `(tactic| first | assumption | exact ⟨by decide, by decide⟩ | decide | omega)
local macro_rules | `(tactic| walk_at "rv") => `(tactic| first
  | exact rv_I0
  | exact rv_eq rfl
  | exact rv_ne rfl
  | (refine' rv_ixL ?h ?a; (case h => walk_at "sq"); (case a => walk_at "at"))
  | (refine' rv_I ?c; (case c => walk_at "side")))
local macro_rules | `(tactic| walk_at "ev") => `(tactic| first
  | exact ev_var rfl
  | exact ev_c
  | (refine' ev_isi ?a ?b (.ty _) ?c ?d; (case a => walk_at "ev"); (case b => walk_at "ev"); (case c => first | exact ty_int | exact ty_str | exact ty_lst (by assumption)); (case d => first | exact kit_ty k_ii | exact kit_ty k_ib | exact kit_ty k_si | exact kit_ty k_ll | exact kit_ty k_ss))
  | (refine' ev_op ?a ?b ?c; (case a => walk_at "ev"); (case b => walk_at "ev"); (case c => walk_at "rv"))
  | (refine' ev_un ?a ?b; (case a => walk_at "ev"); (case b => exact ru_neg))
  | (refine' ev_isN ?a; (case a => walk_at "ev"))
  | (refine' ev_notN ?a; (case a => walk_at "ev"))
  | (refine' ev_orV1 (ev_is ?a ?b); (case a => walk_at "ev"); (case b => decide))
  | (refine' ev_andV0 (ev_is ?a ?b); (case a => walk_at "ev"); (case b => decide))
  | (refine' ev_andV ?a ?b; (case a => walk_at "ev"); (case b => intro _; walk_at "ev"))
  | (refine' ev_orV ?a ?b; (case a => walk_at "ev"); (case b => intro _; walk_at "ev"))
  | (refine' ev_notV ?a; (case a => walk_at "ev"))
  | (refine' ev_len ?a ?b; (case a => walk_at "ev"); (case b => walk_at "sq"))
  | (refine' ev_chain ?a ?b ?c ?d ?e; (case a => walk_at "ev"); (case b => walk_at "ev"); (case c => walk_at "rv"); (case d => intro _; walk_at "ev"); (case e => intro _; walk_at "rv")))
local macro_rules | `(tactic| walk_at "et") => `(tactic| first
  | (refine' et_test ?a; (case a => walk_at "ev"))
  | (refine' et_B ?a; (case a => walk_at "ev"))
  | (refine' et_not ?a; (case a => walk_at "et"))
  | (refine' et_or1 (et_is ?a ?b); (case a => walk_at "et"); (case b => decide))
  | (refine' et_and0 (et_is ?a ?b); (case a => walk_at "et"); (case b => decide))
  | (refine' et_and ?a ?b; (case a => walk_at "et"); (case b => intro _; walk_at "et"))
  | (refine' et_or ?a ?b; (case a => walk_at "et"); (case b => intro _; walk_at "et")))
section
variable {P : Program} {w : World} {K : PySem.W.Frag} {mg : Str → Option Value} {base : Heap}
theorem spv_mask {H : Hp} {r : Addr} {p : Plan} {m : Nat} {c : Option Nat} (hR : RuleAt H r p) (ok : RuleOk p) (hm : Msk p m) (hc : ∀ x, c = some x → x < p.length) : SpV sp_mask_behind [.ref r, nV m, oV c] H (nV (mb p m c)) := fun H1 e Q q _ => ⟨r, p, m, c, rfl, hR.mono e, ok, hm, hc, q⟩
def kM (m : Nat) : Key := Sum.inl (m : Int)
theorem kM_inj {a b : Nat} (h : kM a = kM b) : a = b := Int.ofNat.inj (Sum.inl.inj h)
theorem kM_map {l : List Nat} : (l.map kM).Nodup ↔ l.Nodup := by
  unfold List.Nodup
  rw [List.pairwise_map]
  exact ⟨fun h => h.imp fun z e => z (by rw [e]), fun h => h.imp fun z e => z (kM_inj e)⟩
theorem kM_mem {l : List Nat} {x : Nat} : kM x ∈ l.map kM ↔ x ∈ l := by
  rw [List.mem_map]
  exact ⟨fun ⟨y, hy, e⟩ => kM_inj e ▸ hy, fun h => ⟨x, h, rfl⟩⟩
def tupLC (p : Plan) (H : Hp) (t : Addr) (m : Nat) : Prop := H t = some (.tup [nV (L p m), oV (C p m)])
/-- the table at d: of which masks it tells -/
structure Tab (p : Plan) (H : Hp) (d : Addr) (ms : List Nat) : Prop where
  at' : ∃ kvs, H d = some (.dK kvs) ∧ KvAt kM (tupLC p) H kvs ms
  nd : ms.Nodup
  ok : ∀ m ∈ ms, Msk p m ∧ m ≠ 0
  cl : ∀ m ∈ ms, ∀ c ∈ moves m, mb p m c ≠ 0 → mb p m c ∈ ms
theorem Tab.mono {p : Plan} {H H2 : Hp} {d : Addr} {ms : List Nat} (T : Tab p H d ms) (e : Ex H H2) : Tab p H2 d ms := by
  obtain ⟨kvs, h1, h2⟩ := T.at'
  exact ⟨⟨kvs, exu e h1, h2.mono fun t m z => exu e z⟩, T.nd, T.ok, T.cl⟩
theorem Tab.get {p : Plan} {H : Hp} {d : Addr} {ms : List Nat} {kvs : List (Key × V)} (T : Tab p H d ms) (h1 : H d = some (.dK kvs)) : KvAt kM (tupLC p) H kvs ms := by
  obtain ⟨kvs', h1', h2⟩ := T.at'
  rw [h1] at h1'
  cases h1'
  exact h2
def sp_longest (n : Nat) : Sp := fun vs H Q _ => ∃ (r : Addr) (p : Plan) (m : Nat) (d : Addr) (ms : List Nat), vs = [.ref r, nV m, .ref d] ∧ RuleAt H r p ∧ RuleOk p ∧ Msk p m ∧ m ≠ 0 ∧ phi p.length m < n ∧ Tab p H d ms ∧
  ∀ H' t ms', Ex (del H d) H' → Tab p H' d ms' → m ∈ ms' → H' t = some (.tup [nV (L p m), oV (C p m)]) → (∀ x ∈ ms, x ∈ ms') → (∀ x ∈ ms', x ∈ ms ∨ phi p.length x ≤ phi p.length m) → Q (.ref t) H'
theorem moves_oV (m : Nat) : (.non :: ((placesL m).map nV ++ [])) = (moves m).map oV := by
  unfold moves
  rw [List.append_nil, List.map_cons, List.map_map]
  rfl
theorem ok_longest (T : Tx K mg) : ∀ n, FnOk P w K mg base CX0 (n + 3) T.a_longest_from T.d_longest_from ["rule", "mask", "table"] (sp_longest n)
  | 0 => ⟨fun vs H Q E h => by
      obtain ⟨r, p, m, d, ms, rfl, _⟩ := h
      rfl, fun A outer s H args us vs Q E hr he hb hv h => by
      obtain ⟨r, p, m, d, ms, _, _, _, _, _, hn, _⟩ := h
      exact absurd hn (Nat.not_lt_zero _)⟩
  | n + 1 => by
    have ih := ok_longest T n
    refine T.h_longest_from.F.ok sc_longest_from (fun vs H Q E h => ?_) (fun cdv A outer s H vs Q E hr h => ?_)
    · obtain ⟨r, p, m, d, ms, rfl, _⟩ := h
      rfl
    · obtain ⟨r, p, m, d, ms, rfl, hR, ok, hm, h0, hn, hT, k⟩ := h
      have hu := hu_of hr
      obtain ⟨kvs, hd, hkv⟩ := hT.at'
      have hnd := kM_map.mpr hT.nd
      refine ⟨_, (pss_cons (ps_if (pt_cmp (pc_dnotin hu (pv 1) (pv 2)))
      (pss_cons (ps_asg (pe_tup (pa_cons pe_int (pa_cons pe_non pa_nil))) (pg_tup rfl (pgs_cons (pg_name (i := 3) sc_longest_from.nd rfl (.inl rfl)) (pgs_cons (pg_name (i := 4) sc_longest_from.nd rfl (.inl rfl)) pgs_nil))))
      (pss_cons (ps_for PassesOwn.never rfl (pi_list (pe_lst (pa_cons pe_non (StX.pa_star (pe_call (ok_places_of T) (hr.mono (by omega)) (by rfl) T.h_places_of.g T.h_places_of.kp T.h_places_of.b .nil pass0 (pa_cons (pv 1) pa_nil)) pa_nil)))) (pg_name (i := 5) sc_longest_from.nd rfl (.inl rfl))
      (pss_cons (ps_set (i := 6) sc_longest_from.nd rfl (.inl rfl) (pe_call (ok_mask_behind T) (hr.mono (by omega)) (by rfl) T.h_mask_behind.g T.h_mask_behind.kp T.h_mask_behind.b .nil pass0 (pa_cons (pv 0) (pa_cons (pv 1) (pa_cons (pv 5) pa_nil)))))
      (pss_one (ps_if (PW.pt (pw_and (pt_cmpR op_ne (pv 6) pe_int (nomark _)) (pw_and1 (pt_cmpR op_gt (pe_op op_add (pe_ix (ix_tupK (K := K) rfl) (pe_call (ih) (hr.mono (by omega)) (by rfl) T.h_longest_from.g T.h_longest_from.kp T.h_longest_from.b .nil pass0 (pa_cons (pv 0) (pa_cons (pv 6) (pa_cons (pv 2) pa_nil)))) pe_int (fun _ _ => rfl)) pe_int) (pv 3) (nomark _)))))
      (pss_one (ps_par (i := 3) (j := 4) (by rfl) sc_longest_from.nd rfl rfl (by omega) rfl rfl (pa_cons (pe_op op_add (pe_ix (ix_tupK (K := K) rfl) (pe_call (ih) (hr.mono (by omega)) (by rfl) T.h_longest_from.g T.h_longest_from.kp T.h_longest_from.b .nil pass0 (pa_cons (pv 0) (pa_cons (pv 6) (pa_cons (pv 2) pa_nil)))) pe_int (fun _ _ => rfl)) pe_int) (pa_cons (pv 5) pa_nil)) (by rfl)))
      pss_nil))))
      (pss_one (ps_dput hu (pv 2) (pv 1) (pe_tup (pa_cons (pv 3) (pa_cons (pv 4) pa_nil))) rfl))))
      pss_nil)
      (pss_one (ps_ret (pe_dget hu (pv 2) (pv 1) (fun _ _ => rfl))))), ?_⟩
      have ndl : ∀ xs, H d ≠ some (.lst xs) := fun xs e => by
        rw [hd] at e
        cases e
      have hR0 : RuleAt (del H d) r p := hR.del ndl
      refine ⟨_, rfl, _, rfl, d, _, rfl, DGet.k (k := kM m) hd, _, rfl, ?_⟩
      by_cases hin : m ∈ ms
      · obtain ⟨t, e1, e2⟩ := hkv.get hnd hin
        rw [e1]
        refine iteF ?_
        refine ⟨_, rfl, _, rfl, d, _, rfl, ?_, k H t ms del_ex hT hin e2 (fun _ h => h) fun _ h => .inl h⟩
        have g := DGet.k (k := kM m) hd
        rw [e1] at g
        exact g
      · have e1 : valV kvs (kM m) = none := hkv.none fun z => hin (kM_mem.mp z)
        rw [e1]
        refine iteT ?_
        refine q_unp2 (eu_tup (ea_cons ev_c (ea_cons ev_c ea_nil)) (by decide)) fun H00 e00 => ?_
        have hd00 := exu e00 hd
        have hlen : (moves m).length ≤ 1000 := by
          have h1 : (placesL m).length ≤ 5 := Nat.le_trans (List.length_filter_le _ _) (by rw [List.length_range]; exact Nat.le_refl 5)
          unfold moves
          rw [List.length_cons, List.length_map]
          omega
        -- for place in [None, *places_of(mask)]
        refine q_forNL (EvL.mono (Ex.trans (del_ex (H := H) (d := d)) e00) (el_is (el_lst (ea_cons ev_c (ea_starL (evl_call (ea_cons (ev_var rfl) ea_nil) (spl_places (hm.lt ok))) ea_nil)) (by rw [moves_oV, List.length_map]; omega)) (moves_oV m)))
          (fun q i σ' H' => ∃ y5 y6 ms', σ' = [some (.ref r), some (nV m), some (.ref d), some (nV (((moves m).take i).foldl (upL (L p) p m) (0, none)).1), some (oV (((moves m).take i).foldl (upL (L p) p m) (0, none)).2), y5, y6] ∧
          Ex (del H d) H' ∧ q ≠ d ∧ H' q = some (.lst ((moves m).map oV)) ∧ Tab p H' d ms' ∧ (∀ x ∈ ms, x ∈ ms') ∧ (∀ x ∈ ms', x ∈ ms ∨ phi p.length x < phi p.length m) ∧ ∀ c ∈ (moves m).take i, mb p m c ≠ 0 → mb p m c ∈ ms')
          (fun q H1 hq e1 h1 => ⟨none, none, ms, rfl, Ex.trans (del_ex (H := H) (d := d)) (e00.trans e1), (fun e => by rw [e, hd00] at hq; cases hq), h1, hT.mono (e00.trans e1), fun _ h => h, fun _ h => .inl h, fun c hc => by simp at hc⟩) (fun q i σ' H' _ ⟨_, _, _, _, _, _, z, _⟩ => sq_of z) ?_ ?_
        · rintro q i x σ' H' hx ⟨y5, y6, ms', rfl, e2, qd, h2, hT2, sub, low, cl⟩
          rw [List.getElem?_map] at hx
          obtain ⟨c, hc, rfl⟩ := Option.map_eq_some_iff.mp hx
          have hcm : c ∈ moves m := List.mem_of_getElem? hc
          have etake : (moves m).take (i + 1) = (moves m).take i ++ [c] := by
            rw [List.take_add_one, hc]
            rfl
          have efold : ((moves m).take (i + 1)).foldl (upL (L p) p m) (0, none) = upL (L p) p m (((moves m).take i).foldl (upL (L p) p m) (0, none)) c := by
            rw [etake, List.foldl_append]
            rfl
          have hcl := moves_lt ok hm hcm
          -- behind = mask_behind(rule, mask, place)
          refine q_asg (Ev.mono e2 (ev_call (ea_cons (ev_var rfl) (ea_cons (ev_var rfl) (ea_cons (ev_var rfl) ea_nil))) (spv_mask hR0 ok hm hcl))) fun H4 e4 => ?_
          have e04 := e2.trans e4
          have hmb := mb_msk ok hm c hcl
          refine ⟨_, rfl, rfl, _, rfl, ?_⟩
          by_cases hb : mb p m c = 0
          · have eb : (!decide (nV (mb p m c) = V.int 0)) = false := by
              rw [hb]
              rfl
            rw [eb]
            refine iteF (iteF ?_)
            refine ⟨some (oV c), some (nV (mb p m c)), ms', ?_, e04, qd, exu e4 h2, hT2.mono e4, sub, low, fun c' hc' h0' => ?_⟩
            · rw [efold]
              unfold upL
              rw [if_neg (fun z => z.1 hb)]
              rfl
            · rw [etake] at hc'
              rcases List.mem_append.mp hc' with z | z
              · exact cl c' z h0'
              · rw [List.mem_singleton.mp z] at h0'
                exact absurd hb h0'
          · have eb : (!decide (nV (mb p m c) = V.int 0)) = true := by
              have : ¬ nV (mb p m c) = V.int 0 := fun z => hb (Int.ofNat.inj (V.int.inj z))
              rw [decide_eq_false this]
              rfl
            rw [eb]
            refine iteT ?_
            have hph := phi_mb ok hm hcm hb
            have call : ∀ {H5 : Hp} {ms2 : List Nat}, Ex (del H d) H5 → Tab p H5 d ms2 → (∀ x ∈ ms, x ∈ ms2) → (∀ x ∈ ms2, x ∈ ms ∨ phi p.length x < phi p.length m) → ∀ (Q : VK) (E : XK), (∀ H6 t ms3, Ex (del H d) H6 → (∀ a o, a ≠ d → H5 a = some o → H6 a = some o) → Tab p H6 d ms3 → mb p m c ∈ ms3 → H6 t = some (.tup [nV (L p (mb p m c)), oV (C p (mb p m c))]) →
                (∀ x ∈ ms2, x ∈ ms3) → (∀ x ∈ ms3, x ∈ ms ∨ phi p.length x < phi p.length m) → Q (.ref t) H6) → sp_longest n [.ref r, nV (mb p m c), .ref d] H5 Q E := by
              intro H5 ms2 e5 hT5 sub5 low5 Q E hk
              refine ⟨r, p, mb p m c, d, ms2, rfl, hR0.mono e5, ok, hmb, hb, by omega, hT5, fun H6 t ms3 e6 hT6 hin6 ht hsub hlow => hk H6 t ms3 ((ex_del2 e5).trans e6) (fun a o ha hao => e6 a o (del_put hao ha)) hT6 hin6 ht hsub fun x hx => ?_⟩
              rcases hlow x hx with z | z
              · exact low5 x z
              · exact .inr (by omega)
            refine ⟨_, rfl, _, rfl, _, rfl, ?_⟩
            dsimp only [tNil, List.cons_append, List.nil_append]
            refine call e04 (hT2.mono e4) sub low _ _ fun H5 t ms2 e5 k5 hT5 hin5 ht5 sub5 low5 => ?_
            refine ⟨t, _, 0, _, rfl, rfl, st_of ht5, atI_nat (j := 0) rfl, _, _, rfl, rfl, _, rfl, _, _, rfl, rfl, _, rfl, ?_⟩
            have subA : ∀ x ∈ ms, x ∈ ms2 := fun x hx => sub5 x (sub x hx)
            refine ite2 (fun hgt => ?_) fun hgt => ?_
            · have hgt' : L p (mb p m c) + 1 > (((moves m).take i).foldl (upL (L p) p m) (0, none)).1 := by
                have z := of_decide_eq_true hgt
                omega
              refine ⟨_, rfl, _, rfl, _, rfl, ?_⟩
              dsimp only [tNil, List.cons_append, List.nil_append]
              refine call e5 hT5 subA low5 _ _ fun H6 t' ms3 e6 k6 hT6 hin6 ht6 sub6 low6 => ?_
              refine ⟨t', _, 0, _, rfl, rfl, st_of ht6, atI_nat (j := 0) rfl, _, _, rfl, rfl, _, rfl, _, _, rfl, ?_⟩
              refine ⟨some (oV c), some (nV (mb p m c)), ms3, ?_, e6, qd, k6 q _ qd (k5 q _ qd (exu e4 h2)), hT6, fun x hx => sub6 x (subA x hx), low6, fun c' hc' h0' => ?_⟩
              · rw [efold]
                unfold upL
                rw [if_pos ⟨hb, hgt'⟩]
                rfl
              · rw [etake] at hc'
                rcases List.mem_append.mp hc' with z | z
                · exact sub6 _ (sub5 _ (cl c' z h0'))
                · rw [List.mem_singleton.mp z]
                  exact hin6
            · have hgt' : ¬ L p (mb p m c) + 1 > (((moves m).take i).foldl (upL (L p) p m) (0, none)).1 := fun z => hgt (decide_eq_true (by
                show ((((moves m).take i).foldl (upL (L p) p m) (0, none)).1 : Int) < (L p (mb p m c) : Int) + 1
                omega))
              refine ⟨some (oV c), some (nV (mb p m c)), ms2, ?_, e5, qd, k5 q _ qd (exu e4 h2), hT5, subA, low5, fun c' hc' h0' => ?_⟩
              · rw [efold]
                unfold upL
                rw [if_neg (fun z => hgt' z.2)]
                rfl
              · rw [etake] at hc'
                rcases List.mem_append.mp hc' with z | z
                · exact sub5 _ (cl c' z h0')
                · rw [List.mem_singleton.mp z]
                  exact hin5
        · rintro q σ' H' ⟨y5, y6, ms', rfl, e2, qd, h2, hT2, sub, low, cl⟩
          rw [List.length_map, List.take_length, ← LC_eq ok hm]
          rw [List.length_map, List.take_length] at cl
          have hin' : m ∉ ms' := fun z => (low m z).elim hin (fun z => Nat.lt_irrefl _ z)
          obtain ⟨kvs', hd', hkv'⟩ := hT2.at'
          have hl32 : kvs'.length ≤ 32 := by
            rw [hkv'.len]
            exact Lay.len ok hT2.nd hT2.ok
          -- table[mask] = (best, chosen)
          refine ⟨_, rfl, _, rfl, by show 2 ≤ sizeLine; decide, fun t nt => ?_⟩
          have td : d ≠ t := ne_of_none hd' nt
          have hd2 : (upd H' t (.tup [nV (LC p m).1, oV (LC p m).2])) d = some (.dK kvs') := by
            rw [upd_ne td]
            exact hd'
          refine ⟨_, rfl, _, rfl, d, _, rfl, DPut.k (k := kM m) hd2 (small1000 (by omega)), ?_⟩
          have hT3 : Tab p (upd (upd H' t (.tup [nV (LC p m).1, oV (LC p m).2])) d (.dK (putK kvs' (kM m) (.ref t)))) d (ms' ++ [m]) := by
            have e3 : ∀ a u, H' a = some (.tup u) → (upd (upd H' t (.tup [nV (LC p m).1, oV (LC p m).2])) d (.dK (putK kvs' (kM m) (.ref t)))) a = some (.tup u) := fun a u ha => by
              rw [upd_ne (fun z => by rw [z, hd'] at ha; cases ha), upd_ne (ne_of_none ha nt)]
              exact ha
            refine ⟨⟨_, upd_same, ?_⟩, ?_, ?_, ?_⟩
            · refine (hkv'.mono fun a x hx => e3 a _ hx).put (fun z => hin' (kM_mem.mp z)) ?_
              show (upd _ d _) t = _
              rw [upd_ne td.symm, upd_same]
              rfl
            · exact List.nodup_append.mpr ⟨hT2.nd, by simp, fun a ha b hb e => hin' (by rw [List.mem_singleton] at hb; rw [← hb, ← e]; exact ha)⟩
            · intro x hx
              rcases List.mem_append.mp hx with z | z
              · exact hT2.ok x z
              · rw [List.mem_singleton.mp z]
                exact ⟨hm, h0⟩
            · intro x hx c hc h0c
              rcases List.mem_append.mp hx with z | z
              · exact List.mem_append_left _ (hT2.cl x z c hc h0c)
              · rw [List.mem_singleton.mp z] at hc h0c ⊢
                exact List.mem_append_left _ (cl c hc h0c)
          have ht3 : (upd (upd H' t (.tup [nV (LC p m).1, oV (LC p m).2])) d (.dK (putK kvs' (kM m) (.ref t)))) t = some (.tup [nV (L p m), oV (C p m)]) := by
            rw [upd_ne td.symm, upd_same]
            rfl
          have hg : valV (putK kvs' (kM m) (.ref t)) (kM m) = some (.ref t) := by rw [valV_put, if_pos rfl]
          have g := DGet.k (k := kM m) (H := upd (upd H' t (.tup [nV (LC p m).1, oV (LC p m).2])) d (.dK (putK kvs' (kM m) (.ref t)))) (a := d) upd_same
          rw [hg] at g
          refine ⟨_, rfl, _, rfl, d, _, rfl, g, k _ t _ (ex_upd (e2.trans (Ex.new nt))) hT3 (List.mem_append_right _ (List.mem_singleton.mpr rfl)) ht3 (fun x hx => List.mem_append_left _ (sub x hx)) fun x hx => ?_⟩
          rcases List.mem_append.mp hx with z | z
          · exact (low x z).imp id fun z => Nat.le_of_lt z
          · rw [List.mem_singleton.mp z]
            exact .inr (Nat.le_refl _)
end
end K78

/-! K78w4: forgets, forgetting, shows_forgetting. -/
namespace K78
open PySem PySem.Spec PyProof.Rows L2 Evl
local macro_rules | `(tactic| walk_at "sq") => `(tactic| first | exact sq_of (by assumption) | assumption)
local macro_rules | `(tactic| walk_at "at") => `(tactic| first | exact atI_nat (by assumption) | assumption)
local macro_rules | `(tactic| walk_at "side") => `(tactic| first | assumption | exact ⟨by decide, by decide⟩ | decide | omega)
local macro_rules | `(tactic| walk_at "rv") => `(tactic| first
  | exact rv_I0
  | exact rv_eq rfl
  | exact rv_ne rfl
  | (refine' rv_ixL ?h ?a; (case h => walk_at "sq"); (case a => walk_at "at"))
  | (refine' rv_I ?c; (case c => walk_at "side")))
local macro_rules | `(tactic| walk_at "ev") => `(tactic| first
  | exact ev_var rfl
  | exact ev_c
  | (refine' ev_isi ?a ?b (.ty _) ?c ?d; (case a => walk_at "ev"); (case b => walk_at "ev"); (case c => first | exact ty_int | exact ty_str | exact ty_lst (by assumption)); (case d => first | exact kit_ty k_ii | exact kit_ty k_ib | exact kit_ty k_si | exact kit_ty k_ll | exact kit_ty k_ss))
  | (refine' ev_op ?a ?b ?c; (case a => walk_at "ev"); (case b => walk_at "ev"); (case c => walk_at "rv"))
  | (refine' ev_un ?a ?b; (case a => walk_at "ev"); (case b => exact ru_neg))
  | (refine' ev_isN ?a; (case a => walk_at "ev"))
  | (refine' ev_notN ?a; (case a => walk_at "ev"))
  | (refine' ev_orV1 (ev_is ?a ?b); (case a => walk_at "ev"); (case b => decide))
  | (refine' ev_andV0 (ev_is ?a ?b); (case a => walk_at "ev"); (case b => decide))
  | (refine' ev_andV ?a ?b; (case a => walk_at "ev"); (case b => intro _; walk_at "ev"))
  | (refine' ev_orV ?a ?b; (case a => walk_at "ev"); (case b => intro _; walk_at "ev"))
  | (refine' ev_notV ?a; (case a => walk_at "ev"))
  | (refine' ev_len ?a ?b; (case a => walk_at "ev"); (case b => walk_at "sq"))
  | (refine' ev_chain ?a ?b ?c ?d ?e; (case a => walk_at "ev"); (case b => walk_at "ev"); (case c => walk_at "rv"); (case d => intro _; walk_at "ev"); (case e => intro _; walk_at "rv")))
local macro_rules | `(tactic| walk_at "et") => `(tactic| first
  | (refine' et_test ?a; (case a => walk_at "ev"))
  | (refine' et_B ?a; (case a => walk_at "ev"))
  | (refine' et_not ?a; (case a => walk_at "et"))
  | (refine' et_or1 (et_is ?a ?b); (case a => walk_at "et"); (case b => decide))
  | (refine' et_and0 (et_is ?a ?b); (case a => walk_at "et"); (case b => decide))
  | (refine' et_and ?a ?b; (case a => walk_at "et"); (case b => intro _; walk_at "et"))
  | (refine' et_or ?a ?b; (case a => walk_at "et"); (case b => intro _; walk_at "et")))
section
variable {P : Program} {w : World} {K : PySem.W.Frag} {mg : Str → Option Value} {base : Heap}
theorem ok_longest_from (T : Tx K mg) : FnOk P w K mg base CX0 20 T.a_longest_from T.d_longest_from ["rule", "mask", "table"] (sp_longest 17) := ok_longest T 17
theorem spv_check {H : Hp} {r : Addr} {p : Plan} (hR : RuleAt H r p) (ok : RuleOk p) : SpV sp_check_rule [.ref r] H .non := fun H1 e Q q _ => ⟨r, p, rfl, hR.mono e, ok, q⟩
theorem spv_all {H : Hp} {r : Addr} {p : Plan} (hR : RuleAt H r p) (ok : RuleOk p) : SpV sp_all_places [.ref r] H (nV (full p)) := fun H1 e Q q _ => ⟨r, p, rfl, hR.mono e, ok, q⟩
theorem tab_new {p : Plan} {H : Hp} {d : Addr} (h : H d = some (.dK [])) : Tab p H d [] := ⟨⟨[], h, .nil⟩, List.nodup_nil, (fun _ z => nomatch z), fun _ z => nomatch z⟩
def sp_forgets : Sp := fun vs H Q _ => ∃ (r : Addr) (p : Plan), vs = [.ref r] ∧ RuleAt H r p ∧ RuleOk p ∧ RetV (nV (L p (full p) + 1)) H Q
theorem ok_forgets (T : Tx K mg) : FnOk P w K mg base CX0 21 T.a_forgets T.d_forgets ["rule"] sp_forgets := by
  refine T.h_forgets.F.ok sc_forgets (fun vs H Q E h => ?_) (fun cdv A outer s H vs Q E hr h => ?_)
  · obtain ⟨r, p, rfl, _⟩ := h
    rfl
  · obtain ⟨r, p, rfl, hR, ok, k⟩ := h
    refine ⟨_, (pss_cons (ps_expr (pe_call (ok_check_rule T) (hr.mono (by decide)) (by rfl) T.h_check_rule.g T.h_check_rule.kp T.h_check_rule.b .nil pass0 (pa_cons (pv 0) pa_nil)))
      (pss_one (ps_ret (pe_op op_add (pe_ix (ix_tupK (K := K) rfl) (pe_call (ok_longest_from T) (hr.mono (by decide)) (by rfl) T.h_longest_from.g T.h_longest_from.kp T.h_longest_from.b .nil pass0 (pa_cons (pv 0) (pa_cons (pe_call (ok_all_places T) (hr.mono (by decide)) (by rfl) T.h_all_places.g T.h_all_places.kp T.h_all_places.b .nil pass0 (pa_cons (pv 0) pa_nil)) (pa_cons pe_dnewK pa_nil)))) pe_int (fun _ _ => rfl)) pe_int)))), ?_⟩
    refine q_call (ea_cons (ev_var rfl) ea_nil) (spv_check hR ok) fun H1 e1 => ?_
    refine ⟨_, rfl, ?_⟩
    refine (ev_call (ea_cons (ev_var rfl) ea_nil) (spv_all (hR.mono e1) ok) : Ev _ _ H1 _) H1 (Ex.refl H1) _ fun H2 e2 d nd => ?_
    dsimp only [tNil, List.cons_append, List.nil_append]
    refine ⟨r, p, full p, d, [], rfl, (hR.mono (e1.trans e2)).mono (Ex.new nd), ok, full_msk p, full_pos ok, by have := phi_14 ok (full_msk p); omega, tab_new upd_same, fun H3 t ms e3 hT hin ht _ _ => ?_⟩
    refine ⟨t, _, 0, _, rfl, rfl, st_of ht, atI_nat (j := 0) rfl, _, _, rfl, rfl, ?_⟩
    refine k H3 (e1.trans (e2.trans fun a o h => e3 a o ?_))
    have ne : a ≠ d := ne_of_none h nd
    exact del_put (by rw [upd_ne ne]; exact h) ne
theorem path_take_len (p : Plan) (n m : Nat) : (path p n m).length = n := path_len p n m
def sp_forgetting : Sp := fun vs H Q _ => ∃ (r : Addr) (p : Plan), vs = [.ref r] ∧ RuleAt H r p ∧ RuleOk p ∧ RetL ((path p (L p (full p)) (full p)).map oV) H Q
theorem ok_forgetting (T : Tx K mg) : FnOk P w K mg base CX0 21 T.a_forgetting T.d_forgetting ["rule"] sp_forgetting := by
  refine T.h_forgetting.F.ok sc_forgetting (fun vs H Q E h => ?_) (fun cdv A outer s H vs Q E hr h => ?_)
  · obtain ⟨r, p, rfl, _⟩ := h
    rfl
  · obtain ⟨r, p, rfl, hR, ok, k⟩ := h
    have hu := hu_of hr
    refine ⟨_, (pss_cons (ps_expr (pe_call (ok_check_rule T) (hr.mono (by decide)) (by rfl) T.h_check_rule.g T.h_check_rule.kp T.h_check_rule.b .nil pass0 (pa_cons (pv 0) pa_nil)))
      (pss_cons (ps_par3 (i := 1) (j := 2) (l := 3) (by rfl) sc_forgetting.nd rfl rfl rfl (by decide) (by decide) (by decide) rfl rfl rfl (pa_cons pe_dnewK (pa_cons (pe_call (ok_all_places T) (hr.mono (by decide)) (by rfl) T.h_all_places.g T.h_all_places.kp T.h_all_places.b .nil pass0 (pa_cons (pv 0) pa_nil)) (pa_cons (pe_lst pa_nil) pa_nil))) (by rfl))
      (pss_cons (ps_for PassesOwn.never rfl (pi_range1 rfl T.z_range (pa_cons (pe_ix (ix_tupK (K := K) rfl) (pe_call (ok_longest_from T) (hr.mono (by decide)) (by rfl) T.h_longest_from.g T.h_longest_from.kp T.h_longest_from.b .nil pass0 (pa_cons (pv 0) (pa_cons (pv 2) (pa_cons (pv 1) pa_nil)))) pe_int (fun _ _ => rfl)) pa_nil)) (pg_name (i := 4) sc_forgetting.nd rfl (.inl rfl))
      (pss_cons (ps_set (i := 5) sc_forgetting.nd rfl (.inl rfl) (pe_ix (ix_tupK (K := K) rfl) (pe_dget hu (pv 1) (pv 2) (fun _ _ => rfl)) pe_int (fun _ _ => rfl)))
      (pss_cons (ps_expr (pe_bm PySem.F.plainAttrs_list PySem.F.slot_list_append PySem.F.type_list_append mt_append (pv 3) (pa_cons (pv 5) pa_nil)))
      (pss_one (ps_set (i := 2) sc_forgetting.nd rfl (.inl rfl) (pe_call (ok_mask_behind T) (hr.mono (by decide)) (by rfl) T.h_mask_behind.g T.h_mask_behind.kp T.h_mask_behind.b .nil pass0 (pa_cons (pv 0) (pa_cons (pv 2) (pa_cons (pv 5) pa_nil)))))))))
      (pss_one (ps_ret (pv 3)))))), ?_⟩
    refine q_call (ea_cons (ev_var rfl) ea_nil) (spv_check hR ok) fun H1 e1 => ?_
    have hR1 := hR.mono e1
    -- table, mask, found = ({}, all_places(rule), [])
    intro d nd
    refine (ev_call (ea_cons (ev_var rfl) ea_nil) (spv_all (hR1.mono (Ex.new nd)) ok) : Ev _ _ (upd H1 d (.dK [])) _) _ (Ex.refl _) _ fun H2 e2 => ?_
    refine ⟨Nat.zero_le _, fun f nf => ⟨_, _, _, rfl, ?_⟩⟩
    have hd2 : H2 d = some (.dK []) := exu e2 upd_same
    have fd : d ≠ f := ne_of_none hd2 nf
    have nf1 : H1 f = none := fresh_back ((Ex.new nd).trans e2) nf
    have e12 : Ex H1 (upd H2 f (.lst [])) := ((Ex.new nd).trans e2).trans (Ex.new nf)
    have hd3 : (upd H2 f (.lst [])) d = some (.dK []) := by
      rw [upd_ne fd]
      exact hd2
    have hf3 : (upd H2 f (.lst [])) f = some (.lst []) := upd_same
    have hL : L p (full p) ≤ 14 := Nat.le_trans (L_le_phi ok 15 _ (full_msk p) (by have := phi_14 ok (full_msk p); omega)) (phi_14 ok (full_msk p))
    -- range(longest_from(rule, mask, table)[0])
    dsimp only
    refine q_forRX (n := L p (full p)) (Po := fun H4 => ∃ ms, Ex H1 H4 ∧ Tab p H4 d ms ∧ full p ∈ ms ∧ H4 f = some (.lst [])) (fun R hR4 => ?_) (by omega)
      (fun i σ' H' => ∃ y4 y5 ms, σ' = [some (.ref r), some (.ref d), some (nV (maskAt p i (full p))), some (.ref f), y4, y5] ∧
      Ex H1 H' ∧ Tab p H' d ms ∧ maskAt p i (full p) ∈ ms ∧ H' f = some (.lst ((path p i (full p)).map oV))) (fun H4 h4 => ?_) ?_ ?_
    · refine ⟨_, rfl, _, rfl, _, rfl, ?_⟩
      dsimp only [tNil, List.cons_append, List.nil_append]
      refine ⟨r, p, full p, d, [], rfl, hR1.mono e12, ok, full_msk p, full_pos ok, by have := phi_14 ok (full_msk p); omega, tab_new hd3, fun H4 t ms e4 hT hin ht _ _ => ?_⟩
      have hf4 : H4 f = some (.lst []) := exu e4 (del_put hf3 fd.symm)
      have e14 : Ex H1 H4 := fun a o h => by
        have ne : a ≠ d := ne_of_none h nd
        exact e4 a o (del_put (e12 a o h) ne)
      exact ⟨t, _, 0, _, rfl, rfl, st_of ht, atI_nat (j := 0) rfl, hR4 H4 ⟨ms, e14, hT, hin, hf4⟩⟩
    · obtain ⟨ms, a1, a2, a3, a4⟩ := h4
      exact ⟨none, none, ms, rfl, a1, a2, a3, a4⟩
    · rintro i σ' H' hi ⟨y4, y5, ms, rfl, e5, hT5, hin5, hf5⟩
      obtain ⟨hm, h0, hLm⟩ := maskAt_ok ok i (full p) (full_msk p) (full_pos ok) (by omega)
      obtain ⟨hC, hb, _⟩ := L_pos ok hm (by omega)
      obtain ⟨kvs, hd5, hkv⟩ := hT5.at'
      obtain ⟨t5, g1, g2⟩ := hkv.get (kM_map.mpr hT5.nd) hin5
      have g := DGet.k (k := kM (maskAt p i (full p))) hd5
      rw [g1] at g
      have hlen : (path p i (full p)).length = i := path_len p i (full p)
      -- place = table[mask][1]
      refine ⟨_, rfl, _, rfl, d, _, rfl, g, t5, _, 1, _, rfl, rfl, st_of g2, atI_nat (j := 1) rfl, ?_⟩
      -- found.append(place)
      refine ⟨_, rfl, .inl ⟨rfl, _, sq_of hf5⟩, _, rfl, f, _, _, rfl, rfl, hf5, by rw [List.length_map, hlen]; exact small1000 (by omega), ?_⟩
      have e6 : Ex H1 (upd H' f (.lst ((path p i (full p)).map oV ++ [oV (C p (maskAt p i (full p)))]))) := e5.mut nf1
      have hT6 : Tab p (upd H' f (.lst ((path p i (full p)).map oV ++ [oV (C p (maskAt p i (full p)))]))) d ms := by
        refine ⟨⟨kvs, by rw [upd_ne fd]; exact hd5, hkv.mono fun a x hx => ?_⟩, hT5.nd, hT5.ok, hT5.cl⟩
        have ne : a ≠ f := fun z => by
          have hx' : H' a = some (.tup [nV (L p x), oV (C p x)]) := hx
          rw [z, hf5] at hx'
          cases hx'
        show (upd H' f _) a = _
        rw [upd_ne ne]
        exact hx
      -- mask = mask_behind(rule, mask, place)
      refine s_asg (ev_call (ea_cons (ev_var rfl) (ea_cons (ev_var rfl) (ea_cons (ev_var rfl) ea_nil))) (spv_mask (hR1.mono e6) ok hm (moves_lt ok hm hC))) fun H7 e7 => ?_
      refine ⟨some (nV i), some (oV (C p (maskAt p i (full p)))), ms, ?_, e6.trans e7, hT6.mono e7, ?_, ?_⟩
      · rw [maskAt_snoc]
        rfl
      · rw [maskAt_snoc]
        exact hT5.cl _ hin5 _ hC hb
      · rw [path_snoc, List.map_append]
        exact exu e7 upd_same
    · rintro σ' H' ⟨y4, y5, ms, rfl, e5, _, _, hf5⟩
      exact ⟨_, rfl, k f H' (fresh_back e1 nf1) (e1.trans e5) hf5⟩
theorem inV_nat {x : Nat} : ∀ l : List Nat, inV (nV x) (l.map nV) = decide (x ∈ l)
  | [] => by simp [inV]
  | y :: l => by
    have ih := inV_nat (x := x) l
    unfold inV at ih ⊢
    rw [List.map_cons, List.any_cons, ih]
    have e : eqV (nV y) (nV x) = decide (x = y) := by
      show ((y : Int) == (x : Int)) = _
      by_cases c : x = y
      · subst c
        simp
      · rw [decide_eq_false c]
        exact beq_eq_false_iff_ne.mpr (by omega)
    rw [e]
    by_cases c : x = y
    · simp [c]
    · simp [c]
theorem flat_nat : ∀ l : List Nat, (l.map nV).all flatV = true
  | [] => rfl
  | y :: l => by
    rw [List.map_cons, List.all_cons, flat_nat l]
    rfl
def sp_shows_forgetting : Sp := fun vs H Q _ => ∃ (r : Addr) (p : Plan) (a : Addr) (cs : List (Option Nat)), vs = [.ref r, .ref a] ∧ RuleAt H r p ∧ RuleOk p ∧ H a = some (.lst (cs.map oV)) ∧ (∀ c ∈ cs, ∀ x, c = some x → x < p.length) ∧ RetV (.bl (histR p (full p) cs)) H Q
theorem ok_shows_forgetting (T : Tx K mg) : FnOk P w K mg base CX0 5 T.a_shows_forgetting T.d_shows_forgetting ["rule", "value"] sp_shows_forgetting := by
  refine T.h_shows_forgetting.F.ok sc_shows_forgetting (fun vs H Q E h => ?_) (fun cdv A outer s H vs Q E hr h => ?_)
  · obtain ⟨r, p, a, cs, rfl, _⟩ := h
    rfl
  · obtain ⟨r, p, a, cs, rfl, hR, ok, ha, hcs, k⟩ := h
    refine ⟨_, (pss_cons (ps_expr (pe_call (ok_check_rule T) (hr.mono (by decide)) (by rfl) T.h_check_rule.g T.h_check_rule.kp T.h_check_rule.b .nil pass0 (pa_cons (pv 0) pa_nil)))
      (pss_cons (ps_if (pt_not (pt_val (pe_callB (call_isiKK (K := K) rfl) (by rfl) T.z_isinstance (by decide +kernel) (pa_cons (pv 1) (pa_cons (pe_bltn (v := .ty "list") (by rfl) T.z_list (by decide +kernel) rfl) pa_nil)))))
      (pss_one (ps_ret pe_bl))
      pss_nil)
      (pss_cons (ps_set (i := 2) sc_shows_forgetting.nd rfl (.inl rfl) (pe_call (ok_all_places T) (hr.mono (by decide)) (by rfl) T.h_all_places.g T.h_all_places.kp T.h_all_places.b .nil pass0 (pa_cons (pv 0) pa_nil)))
      (pss_cons (ps_for PassesOwn.never rfl (pi_list (pv 1)) (pg_name (i := 3) sc_shows_forgetting.nd rfl (.inl rfl))
      (pss_cons (ps_if (PW.pt (pw_and (pt_cmp (pc_notN (pv 3))) (pw_and1 (PW.pt (pw_or (pt_not (pt_val (pe_call (ok_is_integer T) (hr.mono (by decide)) (by rfl) T.h_is_integer.g T.h_is_integer.kp T.h_is_integer.b3 T.h_is_integer.v3 pass0 (pa_cons (pv 3) (pa_cons pe_int (pa_cons (pe_op op_sub (pe_callB (call_len_seqK (K := K) rfl) (by rfl) T.z_len PySem.boot_len (pa_cons (pv 0) pa_nil)) pe_int) pa_nil)))))) (pw_or1 (pt_cmpR (op_notIn_seqK (K := K) rfl) (pv 3) (pe_call (ok_places_of T) (hr.mono (by decide)) (by rfl) T.h_places_of.g T.h_places_of.kp T.h_places_of.b .nil pass0 (pa_cons (pv 2) pa_nil)) (by rfl))))))))
      (pss_one (ps_ret pe_bl))
      pss_nil)
      (pss_one (ps_set (i := 2) sc_shows_forgetting.nd rfl (.inl rfl) (pe_call (ok_mask_behind T) (hr.mono (by decide)) (by rfl) T.h_mask_behind.g T.h_mask_behind.kp T.h_mask_behind.b .nil pass0 (pa_cons (pv 0) (pa_cons (pv 2) (pa_cons (pv 3) pa_nil))))))))
      (pss_one (ps_ret (pe_cmpR op_ne (pv 2) pe_int (nomark _)))))))), ?_⟩
    refine q_call (ea_cons (ev_var rfl) ea_nil) (spv_check hR ok) fun H1 e1 => ?_
    have ha1 := exu e1 ha
    have hR1 := hR.mono e1
    refine q_ifno (et_is (et_not (et_B (by walk_at "ev"))) (by rfl)) fun H2 e2 => ?_
    have hR2 := hR1.mono e2
    refine q_asg (ev_call (ea_cons (ev_var rfl) ea_nil) (spv_all hR2 ok)) fun H3 e3 => ?_
    have hR3 := hR2.mono e3
    have e03 := (e1.trans e2).trans e3
    refine q_forP (ev_var rfl) (exu e03 ha) (fun i σ => ∃ m y, σ = [some (.ref r), some (.ref a), some (nV m), y] ∧ Msk p m ∧ histR p (full p) cs = histR p m (cs.drop i)) ⟨_, none, rfl, full_msk p, rfl⟩ ?_ ?_
    · rintro N i c σ' H' hc ⟨m, y, rfl, hm, hh⟩ e4 hN
      have hcl := hcs c (List.mem_of_getElem? hc)
      have hR4 := hR3.mono e4
      have edrop : cs.drop i = c :: cs.drop (i + 1) := (List.drop_eq_getElem_cons (List.getElem?_eq_some_iff.mp hc).1).trans (by rw [(List.getElem?_eq_some_iff.mp hc).2])
      have h2 := ok.lo
      refine q_when (b := !decide (c ∈ moves m)) ?_ (fun hb H5 e5 => ?_) fun hb H5 e5 => ?_
      · cases c with
        | none =>
          refine et_is (et_and0 (t := tB (tNotN (tVar 3))) (et_is (by walk_at "et") (by rfl))) ?_
          have : (none : Option Nat) ∈ moves m := mem_moves.mpr (.inl rfl)
          simp [this]
        | some x =>
          have hx := hcl x rfl
          refine et_is (et_and (et_is (by walk_at "et") (by rfl) : EvT (tB (tNotN (tVar 3))) _ H' true) fun _ => et_or (et_is (et_not (et_B (ev_call (ea_cons (ev_var rfl) (ea_cons ev_c (ea_cons (ev_is (ev_op (len_rule hR4 (ev_var rfl)) ev_c rv_I0) rfl) ea_nil))) (spv_int rfl)))) (?_ : _ = false)) fun _ => et_test (ev_opL (ev_var rfl) (evl_call (ea_cons (ev_var rfl) ea_nil) (spl_places (hm.lt ok))) fun q H5 hq e5 => rv_niL (sq_of hq) rfl (flat_nat _))) ?_
          · have a1 : (0 : Int) ≤ ((x : Nat) : Int) := by omega
            have a2 : ((x : Nat) : Int) ≤ ((p.length : Nat) : Int) - 1 := by omega
            rw [decide_eq_true a1, decide_eq_true a2]
            rfl
          · have e' : inV (oV (some x)) ((placesL m).map nV) = decide (x ∈ placesL m) := inV_nat _
            rw [e']
            have : (some x ∈ moves m) ↔ x ∈ placesL m := by
              rw [mem_moves]
              constructor
              · rintro (z | ⟨y, hy, z⟩)
                · cases z
                · cases z
                  exact hy
              · exact fun z => .inr ⟨x, z, rfl⟩
            simp [this]
      · have hf : histR p (full p) cs = false := by
          rw [hh, edrop]
          show (decide (c ∈ moves m) && _) = false
          have : decide (c ∈ moves m) = false := by simpa using hb
          rw [this]
          rfl
        rw [hf] at k
        exact s_retV rfl ev_c fun H6 e6 => k H6 (((e03.trans e4).trans e5).trans e6)
      · have hin : decide (c ∈ moves m) = true := by simpa using hb
        refine s_asg (ev_call (ea_cons (ev_var rfl) (ea_cons (ev_var rfl) (ea_cons (ev_var rfl) ea_nil))) (spv_mask (hR4.mono e5) ok hm hcl)) fun H6 e6 => ?_
        refine hN _ _ ⟨mb p m c, some (oV c), rfl, mb_msk ok hm c hcl, ?_⟩ (e5.trans e6)
        rw [hh, edrop]
        show (decide (c ∈ moves m) && _) = _
        rw [hin]
        rfl
    · rintro σ' H' ⟨m, y, rfl, hm, hh⟩ e4
      refine s_retV rfl (ev_is (by walk_at "ev") ?_) fun H5 e5 => k H5 ((e03.trans e4).trans e5)
      rw [hh, List.drop_length]
      show V.bl _ = V.bl (decide (m ≠ 0))
      congr 1
      by_cases c : m = 0
      · subst c
        rfl
      · have : ¬ nV m = V.int 0 := fun z => c (Int.ofNat.inj (V.int.inj z))
        rw [decide_eq_false this, decide_eq_true c]
        rfl
end
end K78

/-! K78w5: check_place, check_gap, moves_at. -/
namespace K78
open PySem PySem.Spec PyProof.Rows L2 Evl
local macro_rules | `(tactic| walk_at "sq") => `(tactic| first | exact sq_of (by assumption) | assumption)
local macro_rules | `(tactic| walk_at "at") => `(tactic| first | exact atI_nat (by assumption) | assumption)
local macro_rules | `(tactic| walk_at "side") => `(tactic| first | assumption | exact ⟨by decide, by decide⟩ | decide | omega)
local macro_rules | `(tactic| walk_at "rv") => `(tactic| first
  | exact rv_I0
  | exact rv_eq rfl
  | exact rv_ne rfl
  | (refine' rv_ixL ?h ?a; (case h => walk_at "sq"); (case a => walk_at "at"))
  | (refine' rv_I ?c; (case c => walk_at "side")))
local macro_rules | `(tactic| walk_at "ev") => `(tactic| first
  | exact ev_var rfl
  | exact ev_c
  | (refine' ev_isi ?a ?b (.ty _) ?c ?d; (case a => walk_at "ev"); (case b => walk_at "ev"); (case c => first | exact ty_int | exact ty_str | exact ty_lst (by assumption)); (case d => first | exact kit_ty k_ii | exact kit_ty k_ib | exact kit_ty k_si | exact kit_ty k_ll | exact kit_ty k_ss))
  | (refine' ev_op ?a ?b ?c; (case a => walk_at "ev"); (case b => walk_at "ev"); (case c => walk_at "rv"))
  | (refine' ev_un ?a ?b; (case a => walk_at "ev"); (case b => exact ru_neg))
  | (refine' ev_isN ?a; (case a => walk_at "ev"))
  | (refine' ev_notN ?a; (case a => walk_at "ev"))
  | (refine' ev_orV1 (ev_is ?a ?b); (case a => walk_at "ev"); (case b => decide))
  | (refine' ev_andV0 (ev_is ?a ?b); (case a => walk_at "ev"); (case b => decide))
  | (refine' ev_andV ?a ?b; (case a => walk_at "ev"); (case b => intro _; walk_at "ev"))
  | (refine' ev_orV ?a ?b; (case a => walk_at "ev"); (case b => intro _; walk_at "ev"))
  | (refine' ev_notV ?a; (case a => walk_at "ev"))
  | (refine' ev_len ?a ?b; (case a => walk_at "ev"); (case b => walk_at "sq"))
  | (refine' ev_chain ?a ?b ?c ?d ?e; (case a => walk_at "ev"); (case b => walk_at "ev"); (case c => walk_at "rv"); (case d => intro _; walk_at "ev"); (case e => intro _; walk_at "rv")))
local macro_rules | `(tactic| walk_at "et") => `(tactic| first
  | (refine' et_test ?a; (case a => walk_at "ev"))
  | (refine' et_B ?a; (case a => walk_at "ev"))
  | (refine' et_not ?a; (case a => walk_at "et"))
  | (refine' et_or1 (et_is ?a ?b); (case a => walk_at "et"); (case b => decide))
  | (refine' et_and0 (et_is ?a ?b); (case a => walk_at "et"); (case b => decide))
  | (refine' et_and ?a ?b; (case a => walk_at "et"); (case b => intro _; walk_at "et"))
  | (refine' et_or ?a ?b; (case a => walk_at "et"); (case b => intro _; walk_at "et")))
section
variable {P : Program} {w : World} {K : PySem.W.Frag} {mg : Str → Option Value} {base : Heap}
theorem bet_int {a b x : Nat} (h1 : a ≤ x) (h2 : x ≤ b) : isI (nV x) (nV a) (nV b) = some true := by
  show some (decide ((a : Int) ≤ (x : Int)) && decide ((x : Int) ≤ (b : Int))) = some true
  rw [decide_eq_true (show (a : Int) ≤ (x : Int) by omega), decide_eq_true (show (x : Int) ≤ (b : Int) by omega)]
  rfl
def sp_check_place : Sp := fun vs H Q _ => ∃ (r : Addr) (p : Plan) (q : Nat), vs = [.ref r, nV q] ∧ RuleAt H r p ∧ RuleOk p ∧ q < p.length ∧ RetV .non H Q
theorem ok_check_place (T : Tx K mg) : FnOk P w K mg base CX0 2 T.a_check_place T.d_check_place ["rule", "value"] sp_check_place := by
  refine T.h_check_place.F.ok sc_check_place (fun vs H Q E h => ?_) (fun cdv A outer s H vs Q E hr h => ?_)
  · obtain ⟨r, p, q, rfl, _⟩ := h
    rfl
  · obtain ⟨r, p, q, rfl, hR, ok, hq, k⟩ := h
    refine ⟨_, (pss_one (ps_if (pt_not (pt_val (pe_call (ok_is_integer T) (hr.mono (by decide)) (by rfl) T.h_is_integer.g T.h_is_integer.kp T.h_is_integer.b3 T.h_is_integer.v3 pass0 (pa_cons (pv 1) (pa_cons pe_int (pa_cons (pe_op op_sub (pe_callB (call_len_seqK (K := K) rfl) (by rfl) T.z_len PySem.boot_len (pa_cons (pv 0) pa_nil)) pe_int) pa_nil))))))
      (pss_one ps_never)
      pss_nil)), ?_⟩
    refine s_ifno (et_is (et_not (et_B (ev_call (ea_cons (ev_var rfl) (ea_cons ev_c (ea_cons (ev_is (ev_op (len_rule hR (ev_var rfl)) ev_c rv_I0) (?_ : _ = nV (p.length - 1))) ea_nil))) (spv_int (bet_int (Nat.zero_le _) (by omega)))))) (by rfl)) fun H1 e1 => k H1 e1
    show V.int ((p.length : Int) - 1) = V.int ((p.length - 1 : Nat) : Int)
    congr 1
    omega
def sp_check_gap : Sp := fun vs H Q _ => ∃ g : Nat, vs = [nV g] ∧ g ≤ 100 ∧ RetV .non H Q
theorem ok_check_gap (T : Tx K mg) : FnOk P w K mg base CX0 2 T.a_check_gap T.d_check_gap ["value"] sp_check_gap := by
  refine T.h_check_gap.F.ok sc_check_gap (fun vs H Q E h => ?_) (fun cdv A outer s H vs Q E hr h => ?_)
  · obtain ⟨g, rfl, _⟩ := h
    rfl
  · obtain ⟨g, rfl, hg, k⟩ := h
    refine ⟨_, (pss_one (ps_if (pt_not (pt_val (pe_call (ok_is_integer T) (hr.mono (by decide)) (by rfl) T.h_is_integer.g T.h_is_integer.kp T.h_is_integer.b3 T.h_is_integer.v3 pass0 (pa_cons (pv 0) (pa_cons pe_int (pa_cons (pe_glob (v := .int 100) rfl T.g_MOST_GAP ⟨_, rfl⟩) pa_nil))))))
      (pss_one ps_never)
      pss_nil)), ?_⟩
    exact s_ifno (et_is (et_not (et_B (ev_call (ea_cons (ev_var rfl) (ea_cons ev_c (ea_cons ev_c ea_nil))) (spv_int (bet_int (b := 100) (Nat.zero_le _) hg))))) (by rfl)) fun H1 e1 => k H1 e1
theorem spv_place {H : Hp} {r : Addr} {p : Plan} {q : Nat} (hR : RuleAt H r p) (ok : RuleOk p) (hq : q < p.length) : SpV sp_check_place [.ref r, nV q] H .non := fun H1 e Q k _ => ⟨r, p, q, rfl, hR.mono e, ok, hq, k⟩
theorem spv_gap {H : Hp} {g : Nat} (hg : g ≤ 100) : SpV sp_check_gap [nV g] H .non := fun H1 e Q k _ => ⟨g, rfl, hg, k⟩
def MvP (xs : List (It × Option Nat)) : V → Hp → Prop := fun v H' => ∃ l, v = .ref l ∧ ObsAt H' l (xs.map mvO)
def sp_moves_at : Sp := fun vs H Q _ => ∃ (r : Addr) (p : Plan) (q : Nat), vs = [.ref r, nV q] ∧ RuleAt H r p ∧ RuleOk p ∧ q < p.length ∧ RetP (MvP (mv p q)) H Q
theorem spp_moves {H : Hp} {r : Addr} {p : Plan} {q : Nat} (hR : RuleAt H r p) (ok : RuleOk p) (hq : q < p.length) : SpP sp_moves_at [.ref r, nV q] H (MvP (mv p q)) := fun H1 e Q k _ => ⟨r, p, q, rfl, hR.mono e, ok, hq, k⟩
theorem ok_moves_at (T : Tx K mg) : FnOk P w K mg base CX0 1 T.a_moves_at T.d_moves_at ["rule", "place"] sp_moves_at := by
  refine T.h_moves_at.F.ok sc_moves_at (fun vs H Q E h => ?_) (fun cdv A outer s H vs Q E hr h => ?_)
  · obtain ⟨r, p, q, rfl, _⟩ := h
    rfl
  · obtain ⟨r, p, q, rfl, hR, ok, hq, k⟩ := h
    have h5 := ok.hi
    refine ⟨_, (pss_cons (ps_setLc (i := 2) (own := [("hit", 3)]) (g := gName 3) rfl sc_moves_at.nd rfl rfl (sw_true rfl rfl rfl (by decide +kernel)) (pi_range1 rfl T.z_range (pa_cons (pe_callB (call_len_seqK (K := K) rfl) (by rfl) T.z_len PySem.boot_len (pa_cons (pv 0) pa_nil)) pa_nil)) (blkOk_by (own := [("hit", 3)]) (N := ["rule", "place", "hits", "hit"]) (sc := defScope s_moves_at) (by decide +kernel)) (fun _ _ _ _ _ => pg_name (i := 3) sc_moves_at.nd rfl (.inl rfl)) (fun _ _ _ _ _ => pts_one (pt_cmpR op_ne (pv 3) (pv 1) (nomark _))) (fun _ _ _ _ _ => (pe_tup (pa_cons (pv 3) (pa_cons (pe_ix (ix_listK (K := K) rfl) (pe_ix (ix_listK (K := K) rfl) (pv 0) (pv 3) (fun _ _ => rfl)) (pv 1) (fun _ _ => rfl)) pa_nil)))))
      (pss_one (ps_ret (pe_lst (pa_cons (pe_tup (pa_cons pe_non (pa_cons (pe_ifExp (pt_cmpR op_gt (pv 1) pe_int (nomark _)) (pe_op op_sub (pv 1) pe_int) pe_non) pa_nil))) (StX.pa_star (pv 2) pa_nil)))))), ?_⟩
    refine q_asgP (evp_lcR (fun h => .tup [nV h, nV (rg p h q)]) (fun h => decide (h ≠ q)) (ea_cons (len_rule hR (ev_var rfl)) ea_nil) (by omega) (fun _ => rfl) (fun i hi H1 e1 => ?_) fun i hi H1 e1 _ => ?_) fun v H1 e1 h1 => ?_
    · refine et_is (by walk_at "et") ?_
      show (!decide (nV i = nV q)) = decide (i ≠ q)
      by_cases c : i = q
      · subst c
        simp
      · have : ¬ nV i = nV q := fun z => c (Int.ofNat.inj (V.int.inj z))
        rw [decide_eq_false this, decide_eq_true c]
        rfl
    · exact eu_tup (ea_cons (ev_var rfl) (ea_cons (ev_rule ok (hR.mono e1) (ev_var rfl) (ev_var rfl) (ev_var rfl) hi hq) ea_nil)) len2
    · obtain ⟨l, rfl, as, hl, hp⟩ := h1
      have hlen := paired_len hp
      rw [List.length_map] at hlen
      have hfl := List.length_filter_le (fun h => decide (h ≠ q)) (List.range p.length)
      rw [List.length_range] at hfl
      have first : Ev (tIf (tTest (tOp (rI0 fun i j => .bl (decide (j < i))) (tVar 1) (tC (.int 0)))) (tOp (rI0 fun i j => .int (i - j)) (tVar 1) (tC (.int 1))) (tC .non)) [some (.ref r), some (nV q), some (.ref l), none] H1 (oV (if 0 < q then some (q - 1) else none)) := by
        by_cases c : 0 < q
        · refine ev_if (b := true) (et_is (et_test (ev_op (ev_var rfl) ev_c rv_I0)) (decide_eq_true (by omega))) (fun _ => ev_is (ev_op (ev_var rfl) ev_c rv_I0) ?_) fun z => Bool.noConfusion z
          rw [if_pos c]
          show V.int ((q : Int) - 1) = V.int ((q - 1 : Nat) : Int)
          congr 1
          omega
        · refine ev_if (b := false) (et_is (et_test (ev_op (ev_var rfl) ev_c rv_I0)) (decide_eq_false (by omega))) (fun z => Bool.noConfusion z) fun _ => ?_
          rw [if_neg c]
          exact ev_c
      refine s_retLU (eu_tup (ea_cons ev_c (ea_cons first ea_nil)) len2) (ea_star (ev_var rfl) hl ea_nil) (by rw [List.append_nil, List.length_map]; omega) fun t z H2 e2 ht hz => ?_
      refine k _ _ (e1.trans e2) ⟨z, rfl, t :: as, ?_, .cons ht ?_⟩
      · rw [hz, List.append_nil]
        rfl
      · rw [List.map_map]
        exact Paired.mapP hp fun a o ha => exu e2 ha
end
end K78

/-! K78z2: the state of a search; readings of dicts. -/
namespace K78
open PySem PySem.Spec PyProof.Rows L2 Evl
section
variable {σ : L2.St} {H H' : Hp} {ta tb te : TE} {v y : V} {D : Ends} {tz : TS}
theorem dget_mono {a : Addr} {o : Option V} (e : Ex H H') (g : DGet H a y o) : DGet H' a y o := by
  rcases g with ⟨kvs, k, e1, ey, l⟩ | ⟨kvs, k, b, e1, ey, eb, l⟩
  · exact .inl ⟨kvs, k, ex_rd e e1, ey, l⟩
  · exact .inr ⟨kvs, k, b, ex_rd e e1, ey, e b _ eb, l⟩
theorem ev_dget {a : Addr} (ha : Ev ta σ H (.ref a)) (hb : Ev tb σ H y) (g : DGet H a y (some v)) : Ev (tDGet ta tb) σ H v := fun H1 e Q q =>
  ha H1 e _ fun H2 e2 => hb H2 (e.trans e2) _ fun H3 e3 => ⟨a, v, rfl, dget_mono ((e.trans e2).trans e3) g, q H3 (e2.trans e3)⟩
theorem ev_dnotin {a : Addr} {o : Option V} (hb : Ev tb σ H y) (ha : Ev ta σ H (.ref a)) (g : DGet H a y o) : Ev (tDNotIn tb ta) σ H (.bl (!o.isSome)) := fun H1 e Q q =>
  hb H1 e _ fun H2 e2 => ha H2 (e.trans e2) _ fun H3 e3 => ⟨a, o, rfl, dget_mono ((e.trans e2).trans e3) g, q H3 (e2.trans e3)⟩
theorem q_dputL {a : Addr} {xs : List V} (hv : EvL te σ H xs) (ha : Ev ta σ H (.ref a)) (hb : Ev tb σ H y) (k : ∀ z H1, H z = none → Ex H H1 → H1 z = some (.lst xs) → ∃ H2, DPut H1 a y (.ref z) H2 ∧ tz D σ H2) : tSeq (sDPut ta tb te) tz D σ H :=
  hv H (Ex.refl H) _ fun z H1 nz e1 hz => ha H1 e1 _ fun H2 e2 => hb H2 (e1.trans e2) _ fun H3 e3 => by
    obtain ⟨H4, g, h⟩ := k z H3 nz ((e1.trans e2).trans e3) (exu (e2.trans e3) hz)
    exact ⟨a, H4, rfl, g, h⟩
end
/-- a search's dict of ways at d, the list of later ones at la; all else as in Hb -/
structure WS {γ κ : Type} [DecidableEq κ] (kf : γ × List It → κ) (mk : List (κ × V) → HO) (Hb H' : Hp) (d la : Addr) (ws : Ws γ) (lt : List V) : Prop where
  ex : Ex (del2 Hb d la) H'
  dict : ∃ kvs, H' d = some (mk kvs) ∧ KvAt kf (vfA la) H' kvs ws
  lat : H' la = some (.lst lt)
section
variable {κ γ : Type} [DecidableEq κ] {kf : γ × List It → κ} {mk : List (κ × V) → HO} {Hb H H' H2 : Hp} {d la z : Addr} {kvs : List (κ × V)} {ws ws2 : Ws γ} {lt lt2 : List V} {x : γ × List It}
theorem WS.mono (W : WS kf mk Hb H' d la ws lt) (e : Ex H' H2) : WS kf mk Hb H2 d la ws lt := by
  obtain ⟨kvs, h1, h2⟩ := W.dict
  exact ⟨W.ex.trans e, ⟨kvs, exu e h1, ways_ex h2 e⟩, exu e W.lat⟩
theorem WS.get (W : WS kf mk Hb H' d la ws lt) (hd : H' d = some (mk kvs)) (inj : ∀ a b, mk a = mk b → a = b) : KvAt kf (vfA la) H' kvs ws := by
  obtain ⟨kvs', h1, h2⟩ := W.dict
  rw [hd] at h1
  cases inj _ _ (Option.some.inj h1)
  exact h2
theorem WS.put (hmk : ∀ kvs xs, mk kvs ≠ .lst xs) (W : WS kf mk Hb H' d la ws lt) (hd : H' d = some (mk kvs)) (hk : KvAt kf (vfA la) H' kvs ws) (hz : H' z = some (.lst (x.2.map itV))) (zl : z ≠ la) (hx : kf x ∉ ws.map kf) :
    WS kf mk Hb (upd H' d (mk (putK kvs (kf x) (.ref z)))) d la (ws ++ [x]) lt := by
  have ld : la ≠ d := fun e => by
    have := W.lat
    rw [e, hd] at this
    exact hmk _ _ (Option.some.inj this)
  have keep : ∀ t xs, H' t = some (.lst xs) → (upd H' d (mk (putK kvs (kf x) (.ref z)))) t = some (.lst xs) := fun t xs ht => by
    have td : t ≠ d := fun e => by
      rw [e, hd] at ht
      exact hmk _ _ (Option.some.inj ht)
    rw [upd_ne td]
    exact ht
  refine ⟨fun a o h => ?_, ⟨_, upd_same, (hk.mono fun t y hy => ⟨keep t _ hy.1, hy.2⟩).put hx ⟨keep z _ hz, zl⟩⟩, keep la _ W.lat⟩
  rw [upd_ne (del2_of h).1]
  exact W.ex a o h
theorem WS.app (hmk : ∀ kvs xs, mk kvs ≠ .lst xs) (W : WS kf mk Hb H' d la ws lt) : WS kf mk Hb (upd H' la (.lst lt2)) d la ws lt2 := by
  obtain ⟨kvs, hd, hk⟩ := W.dict
  have ld : d ≠ la := fun e => by
    have := W.lat
    rw [← e, hd] at this
    exact hmk _ _ (Option.some.inj this)
  refine ⟨fun a o h => ?_, ⟨kvs, by rw [upd_ne ld]; exact hd, hk.mono fun t y hy => ⟨by rw [upd_ne hy.2]; exact hy.1, hy.2⟩⟩, upd_same⟩
  rw [upd_ne (del2_of h).2.1]
  exact W.ex a o h
theorem WS.base (W : WS kf mk Hb H' d la ws lt) : WS kf mk H' H' d la ws lt := ⟨del2_ex, W.dict, W.lat⟩
theorem WS.up (W : WS kf mk Hb H' d la ws lt) (W2 : WS kf mk H' H2 d la ws2 lt2) : WS kf mk Hb H2 d la ws2 lt2 := ⟨(del2_mono W.ex).trans W2.ex, W2.dict, W2.lat⟩
/-- tuples and lists of references are as they were -/
theorem WS.keep (hm1 : ∀ kvs u, mk kvs ≠ .tup u) (hm2 : ∀ kvs xs, mk kvs ≠ .lst xs) (W : WS kf mk Hb Hb d la ws lt) (W2 : WS kf mk Hb H2 d la ws2 lt2) (hlt : ∀ ts : List Addr, ts ≠ [] → lt ≠ ts.map V.ref) :
    (∀ a u, Hb a = some (.tup u) → H2 a = some (.tup u)) ∧ ∀ a ts, ts ≠ [] → Hb a = some (.lst (ts.map V.ref)) → H2 a = some (.lst (ts.map V.ref)) := by
  obtain ⟨kvs, hd, _⟩ := W.dict
  have hl := W.lat
  refine ⟨fun a u h => W2.ex a _ (del2_put h (fun e => ?_) fun e => ?_), fun a ts hts h => W2.ex a _ (del2_put h (fun e => ?_) fun e => ?_)⟩
  · rw [e, hd] at h
    exact hm1 _ _ (Option.some.inj h)
  · rw [e, hl] at h
    cases h
  · rw [e, hd] at h
    exact hm2 _ _ (Option.some.inj h)
  · rw [e, hl] at h
    injection h with h
    injection h with h
    exact hlt ts hts h
end
theorem dK_lst (kvs : List (Key × V)) (xs : List V) : HO.dK kvs ≠ .lst xs := fun e => HO.noConfusion e
theorem dK_tup (kvs : List (Key × V)) (xs : List V) : HO.dK kvs ≠ .tup xs := fun e => HO.noConfusion e
theorem dT_lst (kvs : List (List Key × V)) (xs : List V) : HO.dT kvs ≠ .lst xs := fun e => HO.noConfusion e
theorem dT_tup (kvs : List (List Key × V)) (xs : List V) : HO.dT kvs ≠ .tup xs := fun e => HO.noConfusion e
end K78

/-! K78w6: shortest_out. -/
namespace K78
open PySem PySem.Spec PyProof.Rows L2 Evl
local macro_rules | `(tactic| walk_at "sq") => `(tactic| first | exact sq_of (by assumption) | assumption)
local macro_rules | `(tactic| walk_at "at") => `(tactic| first | exact atI_nat (by assumption) | assumption)
local macro_rules | `(tactic| walk_at "side") => `(tactic| first | assumption | exact ⟨by decide, by decide⟩ | decide | omega)
local macro_rules | `(tactic| walk_at "rv") => `(tactic| first
  | exact rv_I0
  | exact rv_eq rfl
  | exact rv_ne rfl
  | (refine' rv_ixL ?h ?a; (case h => walk_at "sq"); (case a => walk_at "at"))
  | (refine' rv_I ?c; (case c => walk_at "side")))
local macro_rules | `(tactic| walk_at "ev") => `(tactic| first
  | exact ev_var rfl
  | exact ev_c
  | (refine' ev_isi ?a ?b (.ty _) ?c ?d; (case a => walk_at "ev"); (case b => walk_at "ev"); (case c => first | exact ty_int | exact ty_str | exact ty_lst (by assumption)); (case d => first | exact kit_ty k_ii | exact kit_ty k_ib | exact kit_ty k_si | exact kit_ty k_ll | exact kit_ty k_ss))
  | (refine' ev_op ?a ?b ?c; (case a => walk_at "ev"); (case b => walk_at "ev"); (case c => walk_at "rv"))
  | (refine' ev_un ?a ?b; (case a => walk_at "ev"); (case b => exact ru_neg))
  | (refine' ev_isN ?a; (case a => walk_at "ev"))
  | (refine' ev_notN ?a; (case a => walk_at "ev"))
  | (refine' ev_orV1 (ev_is ?a ?b); (case a => walk_at "ev"); (case b => decide))
  | (refine' ev_andV0 (ev_is ?a ?b); (case a => walk_at "ev"); (case b => decide))
  | (refine' ev_andV ?a ?b; (case a => walk_at "ev"); (case b => intro _; walk_at "ev"))
  | (refine' ev_orV ?a ?b; (case a => walk_at "ev"); (case b => intro _; walk_at "ev"))
  | (refine' ev_notV ?a; (case a => walk_at "ev"))
  | (refine' ev_len ?a ?b; (case a => walk_at "ev"); (case b => walk_at "sq"))
  | (refine' ev_chain ?a ?b ?c ?d ?e; (case a => walk_at "ev"); (case b => walk_at "ev"); (case c => walk_at "rv"); (case d => intro _; walk_at "ev"); (case e => intro _; walk_at "rv")))
local macro_rules | `(tactic| walk_at "et") => `(tactic| first
  | (refine' et_test ?a; (case a => walk_at "ev"))
  | (refine' et_B ?a; (case a => walk_at "ev"))
  | (refine' et_not ?a; (case a => walk_at "et"))
  | (refine' et_or1 (et_is ?a ?b); (case a => walk_at "et"); (case b => decide))
  | (refine' et_and0 (et_is ?a ?b); (case a => walk_at "et"); (case b => decide))
  | (refine' et_and ?a ?b; (case a => walk_at "et"); (case b => intro _; walk_at "et"))
  | (refine' et_or ?a ?b; (case a => walk_at "et"); (case b => intro _; walk_at "et")))
section
variable {P : Program} {w : World} {K : PySem.W.Frag} {mg : Str → Option Value} {base : Heap}
def OutP (p : Plan) (q : Nat) : V → Hp → Prop := fun v H' => ∃ a its, v = .ref a ∧ H' a = some (.lst (its.map itV)) ∧ OutOk p q its
def sp_shortest_out : Sp := fun vs H Q _ => ∃ (r : Addr) (p : Plan) (q : Nat), vs = [.ref r, nV q] ∧ RuleAt H r p ∧ RuleOk p ∧ q < p.length ∧ RetP (OutP p q) H Q
def kfO (x : Nat × List It) : Key := kM x.1
theorem kfO_map {ws : Ws Nat} : ws.map kfO = (keys ws).map kM := by
  unfold keys
  rw [List.map_map]
  rfl
theorem take_snoc {α : Type} {l : List α} {i : Nat} {x : α} (h : l[i]? = some x) : l.take (i + 1) = l.take i ++ [x] := by
  rw [List.take_add_one, h]
  rfl
theorem of_keys {κ : Type} {ws : Ws κ} {k : κ} (h : k ∈ keys ws) : ∃ its, (k, its) ∈ ws := by
  obtain ⟨⟨k', its⟩, h1, h2⟩ := List.mem_map.mp h
  cases h2
  exact ⟨its, h1⟩
theorem ok_shortest_out (T : Tx K mg) : FnOk P w K mg base CX0 2 T.a_shortest_out T.d_shortest_out ["rule", "place"] sp_shortest_out := by
  refine T.h_shortest_out.F.ok sc_shortest_out (fun vs H Q E h => ?_) (fun cdv A outer s H vs Q E hr h => ?_)
  · obtain ⟨r, p, q, rfl, _⟩ := h
    rfl
  · obtain ⟨r, p, p0, rfl, hR, ok, hp, k⟩ := h
    have hu := hu_of hr
    have h5 := ok.hi
    refine ⟨_, (pss_cons (ps_par (i := 2) (j := 3) (by rfl) sc_shortest_out.nd rfl rfl (by decide) rfl rfl (pa_cons (pe_disp (pps_cons (pv 1) (pe_lst pa_nil) pps_nil) (by rfl) (by rfl) (fun z => by cases z) (by decide)) (pa_cons (pe_lst (pa_cons (pv 1) pa_nil)) pa_nil)) (by rfl))
      (pss_one (ps_while PassesOwn.never (pt_val pe_bl)
      (pss_cons (ps_set (i := 4) sc_shortest_out.nd rfl (.inl rfl) (pe_lst pa_nil))
      (pss_cons (ps_for PassesOwn.never rfl (pi_list (pv 3)) (pg_name (i := 5) sc_shortest_out.nd rfl (.inl rfl))
      (pss_one (ps_for PassesOwn.never rfl (pi_list (pe_call (ok_moves_at T) (hr.mono (by decide)) (by rfl) T.h_moves_at.g T.h_moves_at.kp T.h_moves_at.b .nil pass0 (pa_cons (pv 0) (pa_cons (pv 5) pa_nil)))) (pg_tup rfl (pgs_cons (pg_name (i := 6) sc_shortest_out.nd rfl (.inl rfl)) (pgs_cons (pg_name (i := 7) sc_shortest_out.nd rfl (.inl rfl)) pgs_nil)))
      (pss_cons (ps_if (pt_cmp (pc_isN (pv 7)))
      (pss_one (ps_ret (pe_lst (StX.pa_star (pe_dget hu (pv 2) (pv 5) (fun _ _ => rfl)) (pa_cons (pv 6) pa_nil)))))
      pss_nil)
      (pss_one (ps_if (pt_cmp (pc_dnotin hu (pv 7) (pv 2)))
      (pss_cons (ps_dput hu (pv 2) (pv 7) (pe_lst (StX.pa_star (pe_dget hu (pv 2) (pv 5) (fun _ _ => rfl)) (pa_cons (pv 6) pa_nil))) rfl)
      (pss_one (ps_expr (pe_bm PySem.F.plainAttrs_list PySem.F.slot_list_append PySem.F.type_list_append mt_append (pv 4) (pa_cons (pv 7) pa_nil)))))
      pss_nil))))))
      (pss_one (ps_set (i := 3) sc_shortest_out.nd rfl (.inl rfl) (pv 4)))))))), ?_⟩
    -- ways, waiting = {place: []}, [place]
    intro d nd
    refine ⟨_, rfl, Nat.zero_le _, fun t0 nt0 => ?_⟩
    have dt : d ≠ t0 := ne_of_none upd_same nt0
    refine ⟨by rw [upd_ne dt]; exact upd_same, [(kM p0, .ref t0)], rfl, by show 1 ≤ 15; decide, ?_⟩
    refine ⟨_, rfl, by show 1 ≤ sizeLine; decide, fun wl nwl => ⟨_, _, rfl, ?_⟩⟩
    have dw : d ≠ wl := ne_of_none upd_same nwl
    have ht4 : (upd (upd (upd H d (.dK [])) t0 (.lst [])) d (.dK (mergeK [] [(kM p0, .ref t0)]))) t0 = some (.lst []) := by
      rw [upd_ne dt.symm]
      exact upd_same
    have tw : t0 ≠ wl := ne_of_none ht4 nwl
    have e5 := (((Ex.new nd).trans (Ex.new nt0)).mut (o := .dK (mergeK [] [(kM p0, .ref t0)])) nd).trans (Ex.new (o := .lst [nV p0]) nwl)
    refine s_while (D := { nx := _, rt := Q }) (fun m σ' H' => ∃ t wt ws wl y4 y5 y6 y7, m + t = p0 ∧ σ' = [some (.ref r), some (nV p0), some (.ref d), some (.ref wl), y4, y5, y6, y7] ∧ Ex H H' ∧ H' wl = some (.lst (wt.map nV)) ∧ (∃ kvs, H' d = some (.dK kvs) ∧ KvAt kfO vfL H' kvs ws) ∧ TopO p p0 t wt ws) p0
      ⟨0, [p0], [(p0, [])], wl, _, _, _, _, rfl, rfl, e5, upd_same, ⟨[(kM p0, .ref t0)], by rw [upd_ne dw]; exact upd_same, .cons ⟨rfl, t0, rfl, by show (upd _ wl _) t0 = _; rw [upd_ne tw]; exact ht4⟩ .nil⟩, topO_0 hp⟩ ?_
    rintro m σ' H0 ⟨t, wt, ws, wl, y4, y5, y6, y7, hm, rfl, e0, hwl, ⟨kvs, hd, hkv⟩, TO⟩
    refine ⟨true, et_test ev_c, fun _ H1 e1 => ⟨_, fun σ2 H2 h => h, ?_⟩, fun z => Bool.noConfusion z⟩
    refine q_asgL (el_lst ea_nil (Nat.zero_le _)) fun la H2 nla e2 hla => ?_
    have e12 := e1.trans e2
    have hwl2 := exu e12 hwl
    have hd2 := exu e12 hd
    have W0 : WS kfO HO.dK H2 H2 d la ws (([] : List Nat).map nV) := ⟨del2_ex, ⟨kvs, hd2, ways_fresh (hkv.map fun t x hx => exu e1 hx) nla e2⟩, hla⟩
    have hwlB : del2 H2 d la wl = some (.lst (wt.map nV)) := del2_put hwl2 (fun e => by rw [e, hd2] at hwl2; cases hwl2) (ne_of_none (exu e1 hwl) nla)
    have eB : Ex H (del2 H2 d la) := ex_del2f (e0.trans e12) nd (fresh_back (e0.trans e1) nla)
    have hRB := hR.mono eB
    refine q_forLn (ev_var rfl) (sq_of hwl2) (fun i σ' H' => ∃ ws' lt y5 y6 y7, σ' = [some (.ref r), some (nV p0), some (.ref d), some (.ref wl), some (.ref la), y5, y6, y7] ∧ WS kfO HO.dK H2 H' d la ws' (lt.map nV) ∧ InvO p p0 t wt ws' lt ∧ ∀ r ∈ wt.take i, r ≠ 0 ∧ ∀ q ∈ sc p r, q ∈ keys ws')
      (fun H3 e3 => ⟨ws, [], y5, y6, y7, rfl, W0.mono e3, TO.inv, fun _ z => by simp at z⟩) (fun i σ' H' _ ⟨_, _, _, _, _, _, W, _⟩ => sq_of (W.ex _ _ hwlB)) ?_ ?_
    · rintro i x σ' H3 hx ⟨ws', lt, z5, z6, z7, rfl, W3, I3, hdone⟩
      rw [List.getElem?_map] at hx
      obtain ⟨here, hh, rfl⟩ := Option.map_eq_some_iff.mp hx
      have hw : here ∈ wt := List.mem_of_getElem? hh
      have hlt : here < p.length := I3.ks here (I3.wk here hw)
      have hR3 := hRB.mono W3.ex
      refine s_forMv (xs := mv p here) (evp_call (ea_cons (ev_var rfl) (ea_cons (ev_var rfl) ea_nil)) (spp_moves hR3 ok hlt)) (fun Hb j σ' H' => ∃ ws2 lt2 y6 y7, σ' = [some (.ref r), some (nV p0), some (.ref d), some (.ref wl), some (.ref la), some (nV here), y6, y7] ∧
        WS kfO HO.dK Hb H' d la ws2 (lt2.map nV) ∧ InvO p p0 t wt ws2 lt2 ∧ (∀ q ∈ keys ws', q ∈ keys ws2) ∧ ∀ y ∈ (mv p here).take j, ∃ q, y.2 = some q ∧ q ∈ keys ws2) (fun Hb eb => ⟨ws', lt, z6, z7, rfl, (W3.mono eb).base, I3, fun _ h => h, fun _ z => by simp at z⟩) (by unfold mv; simp) ?_ ?_ ?_
      · rintro Hb j σ' H' eb ⟨ws2, lt2, y6, y7, rfl, W4, _⟩
        exact (W3.mono eb).base.keep dK_tup dK_lst W4 fun ts hts => nats_refs hts
      · rintro Hb j x σ' H' eb hx ⟨ws2, lt2, y6, y7, rfl, W4, I4, sub, done⟩
        obtain ⟨item, there⟩ := x
        have hm : (item, there) ∈ mv p here := List.mem_of_getElem? hx
        obtain ⟨kvs4, hd4, hk4⟩ := W4.dict
        have hkn : (ws2.map kfO).Nodup := by
          rw [kfO_map]
          exact kM_map.mpr I4.nd
        obtain ⟨its, hs⟩ := of_keys (I4.wk here hw)
        obtain ⟨tt, g1, g2⟩ := hk4.get hkn hs
        have gd : DGet H' d (nV here) (some (.ref tt)) := by
          have := DGet.k (k := kM here) hd4
          rw [show valV kvs4 (kM here) = _ from g1] at this
          exact this
        have hil : its.length ≤ 5 := by
          have := I4.lenT here its hs hw
          omega
        have hl : (its.map itV ++ [itV item]).length ≤ 100000 := by
          rw [List.length_append, List.length_map]
          show its.length + 1 ≤ _
          omega
        have emap : its.map itV ++ [itV item] = (its ++ [item]).map itV := by
          rw [List.map_append]
          rfl
        cases there with
        | none =>
          refine q_when (b := true) (et_is (et_B (ev_isN (ev_var rfl))) (by rfl)) (fun _ H5 e5 => ?_) fun z => Bool.noConfusion z
          refine s_retL (el_lst (ea_star (ev_dget (ev_var rfl) (ev_var rfl) (dget_mono e5 gd)) (exu e5 g2.1) (ea_cons (ev_var rfl) ea_nil)) hl) fun a H6 _ e6 ha => ?_
          exact k _ _ ((eB.trans ((W3.mono eb).up W4).ex).trans (e5.trans e6)) ⟨a, its ++ [item], rfl, by rw [← emap]; exact ha, TO.out I4 hw hs hm⟩
        | some q =>
          refine q_ifno (et_is (et_B (ev_isN (ev_var rfl))) (by rfl)) fun H5 e5 => ?_
          have W5 := W4.mono e5
          by_cases hin : q ∈ keys ws2
          · obtain ⟨its2, hs2⟩ := of_keys hin
            obtain ⟨t2, g3, _⟩ := hk4.get hkn hs2
            have g := DGet.k (k := kM q) (exu e5 hd4)
            rw [show valV kvs4 (kM q) = _ from g3] at g
            refine s_ifno (et_is (et_B (ev_dnotin (ev_var rfl) (ev_var rfl) g)) (by rfl)) fun H6 e6 => ?_
            refine ⟨ws2, lt2, _, _, rfl, W5.mono e6, I4, sub, fun y hy => ?_⟩
            rw [take_snoc hx] at hy
            rcases List.mem_append.mp hy with z | z
            · exact done y z
            · rw [List.mem_singleton.mp z]
              exact ⟨q, rfl, hin⟩
          · have hnk : kM q ∉ ws2.map kfO := by
              rw [kfO_map]
              exact fun z => hin (kM_mem.mp z)
            have g := DGet.k (k := kM q) (exu e5 hd4)
            rw [hk4.none hnk] at g
            refine s_when (b := true) (et_is (et_B (ev_dnotin (ev_var rfl) (ev_var rfl) g)) (by rfl)) (fun _ H6 e6 => ?_) fun z => Bool.noConfusion z
            have e56 := e5.trans e6
            have hlen := I4.lt_len ok
            refine q_dputL (el_lst (ea_star (ev_dget (ev_var rfl) (ev_var rfl) (dget_mono e56 gd)) (exu e56 g2.1) (ea_cons (ev_var rfl) ea_nil)) hl) (ev_var rfl) (ev_var rfl) fun z H7 nz e7 hz => ⟨_, DPut.k (k := kM q) (exu (e56.trans e7) hd4) (sz_lt (by rw [hk4.len]; omega)), ?_⟩
            have e57 := e56.trans e7
            have zl : z ≠ la := fun e => by
              have := (W4.mono e56).lat
              rw [← e, nz] at this
              cases this
            have W8 := (W4.mono e57).put (x := (q, its ++ [item])) (z := z) dK_lst (exu e57 hd4) (ways_ex hk4 e57) (by rw [← emap]; exact hz) zl hnk
            refine s_app W8.lat (ev_var rfl) (ev_var rfl) (by rw [List.length_map]; omega) fun H9 e9 => ?_
            refine ⟨ws2 ++ [(q, its ++ [item])], lt2 ++ [q], _, _, rfl, ?_, I4.add ok hw hs hm hin, fun x hx => by rw [keys_app]; exact List.mem_append_left _ (sub x hx), fun y hy => ?_⟩
            · rw [List.map_append]
              exact (W8.mono e9).app dK_lst
            · rw [take_snoc hx] at hy
              rw [keys_app]
              rcases List.mem_append.mp hy with z | z
              · obtain ⟨x, h1, h2⟩ := done y z
                exact ⟨x, h1, List.mem_append_left _ h2⟩
              · rw [List.mem_singleton.mp z]
                exact ⟨q, rfl, List.mem_append_right _ (List.mem_singleton.mpr rfl)⟩
      · rintro Hb σ' H' eb ⟨ws2, lt2, y6, y7, rfl, W4, I4, sub, done⟩
        rw [List.take_length] at done
        refine ⟨ws2, lt2, _, y6, y7, rfl, (W3.mono eb).up W4, I4, fun x hx => ?_⟩
        rw [take_snoc hh] at hx
        rcases List.mem_append.mp hx with z | z
        · exact ⟨(hdone x z).1, fun q hq => sub q ((hdone x z).2 q hq)⟩
        · rw [List.mem_singleton.mp z]
          refine ⟨fun e0 => ?_, fun q hq => ?_⟩
          · obtain ⟨q, e, _⟩ := done (.miss, none) (by
              rw [e0]
              exact List.mem_cons_self)
            cases e
          · obtain ⟨i, hi⟩ := mem_sc.mp hq
            obtain ⟨q', e, h⟩ := done _ hi
            injection e with e
            rw [e]
            exact h
    · rintro σ' H' ⟨ws', lt, z5, z6, z7, rfl, W3, I3, hdone⟩
      rw [List.length_map, List.take_length] at hdone
      refine s_asg (ev_var rfl) fun H4 e4 => ?_
      have TO' := TO.next ok hp I3 (fun z => (hdone 0 z).1 rfl) fun r hr q hq => (hdone r hr).2 q hq
      have hle := layK_le ok hp TO'.no
      obtain ⟨kvs3, hd3, hk3⟩ := W3.dict
      exact ⟨p0 - (t + 1), by omega, t + 1, lt, ws', la, _, _, _, _, by omega, rfl, eB.trans (W3.ex.trans e4), exu e4 W3.lat, ⟨kvs3, exu e4 hd3, ways_back (ways_ex hk3 e4)⟩, TO'⟩
theorem spp_out {H : Hp} {r : Addr} {p : Plan} {q : Nat} (hR : RuleAt H r p) (ok : RuleOk p) (hq : q < p.length) : SpP sp_shortest_out [.ref r, nV q] H (OutP p q) := fun H1 e Q k _ => ⟨r, p, q, rfl, hR.mono e, ok, hq, k⟩
end
end K78

/-! K78z3: states, lists of (item, state). -/
namespace K78
open PySem PySem.Spec PyProof.Rows L2 Evl
def stP (H : Hp) (a : Addr) (s : Ks) : Prop := H a = some (.tup [nV s.1, nV s.2])
abbrev Fn := It × Option Nat × Nat
def fnP (H : Hp) (a : Addr) (x : Fn) : Prop := ∃ b, H a = some (.tup [itV x.1, .ref b]) ∧ H b = some (.tup [oV x.2.1, nV x.2.2])
def FndAt (H : Hp) (l : Addr) (fs : List Fn) : Prop := ∃ as : List Addr, H l = some (.lst (as.map V.ref)) ∧ Paired (fnP H) as fs
/-- tuples stay -/
def TEx (H H' : Hp) : Prop := ∀ a u, H a = some (.tup u) → H' a = some (.tup u)
theorem tex_of {H H' : Hp} (e : Ex H H') : TEx H H' := fun a u h => e a _ h
theorem TEx.trans {H H1 H2 : Hp} (a : TEx H H1) (b : TEx H1 H2) : TEx H H2 := fun x u h => b x u (a x u h)
theorem tex_upd {H : Hp} {l : Addr} {o : HO} (h : ∀ u, H l ≠ some (.tup u)) : TEx H (upd H l o) := fun a u ha => by
  rw [upd_ne (fun e => by rw [e] at ha; exact h u ha)]
  exact ha
theorem stP.tex {H H' : Hp} (e : TEx H H') {a : Addr} {s : Ks} (h : stP H a s) : stP H' a s := e a _ h
theorem fnP.tex {H H' : Hp} (e : TEx H H') {a : Addr} {x : Fn} (h : fnP H a x) : fnP H' a x := by
  obtain ⟨b, h1, h2⟩ := h
  exact ⟨b, e a _ h1, e b _ h2⟩
theorem sts_tex {H H' : Hp} (e : TEx H H') {as : List Addr} {ks : List Ks} (h : Paired (stP H) as ks) : Paired (stP H') as ks := Paired.mapP h fun _ _ z => stP.tex e z
theorem fns_tex {H H' : Hp} (e : TEx H H') {as : List Addr} {ks : List Fn} (h : Paired (fnP H) as ks) : Paired (fnP H') as ks := Paired.mapP h fun _ _ z => fnP.tex e z
theorem FndAt.mono {H H' : Hp} {l : Addr} {fs : List Fn} (e : Ex H H') (h : FndAt H l fs) : FndAt H' l fs := by
  obtain ⟨as, h1, h2⟩ := h
  exact ⟨as, exu e h1, fns_tex (tex_of e) h2⟩
theorem paired_app {α β : Type} {R : α → β → Prop} : ∀ {as cs : List α} {bs ds : List β}, Paired R as bs → Paired R cs ds → Paired R (as ++ cs) (bs ++ ds)
  | _, _, _, _, .nil, h => h
  | _, _, _, _, .cons r t, h => .cons r (paired_app t h)
theorem WS.tex {κ γ : Type} [DecidableEq κ] {kf : γ × List It → κ} {mk : List (κ × V) → HO} {Hb H2 : Hp} {d la : Addr} {ws ws2 : Ws γ} {lt lt2 : List V} (hm1 : ∀ kvs u, mk kvs ≠ .tup u) (W : WS kf mk Hb Hb d la ws lt) (W2 : WS kf mk Hb H2 d la ws2 lt2) : TEx Hb H2 := by
  obtain ⟨kvs, hd, _⟩ := W.dict
  have hl := W.lat
  refine fun a u h => W2.ex a _ (del2_put h (fun e => ?_) fun e => ?_)
  · rw [e, hd] at h
    exact hm1 _ _ (Option.some.inj h)
  · rw [e, hl] at h
    cases h
theorem FndAt.len {H : Hp} {l : Addr} {fs : List Fn} (h : FndAt H l fs) {xs : List V} (e : H l = some (.lst xs)) : xs.length = fs.length := by
  obtain ⟨as, h1, h2⟩ := h
  rw [h1] at e
  injection e with e
  injection e with e
  rw [← e, List.length_map, paired_len h2]
section
variable {K : PySem.W.Frag} {σ : L2.St} {H : Hp} {ta tb te t1 t2 t3 tl : TE} {t : TT} {x y z v : V} {D : Ends} {tu tz : TS}
theorem evp_pair (h1 : Ev t1 σ H x) (h2 : Ev t2 σ H y) (h3 : Ev t3 σ H z) : EvP (tTup (tCons t1 (tCons (tTup (tCons t2 (tCons t3 tNil))) tNil))) σ H (fun v H' => ∃ a b, v = .ref a ∧ H' a = some (.tup [x, .ref b]) ∧ H' b = some (.tup [y, z])) := fun H1 e Q q =>
  h1 H1 e _ fun H2 e2 => h2 H2 (e.trans e2) _ fun H3 e3 => h3 H3 ((e.trans e2).trans e3) _ fun H4 e4 => ⟨sz_of (by show 2 ≤ _; decide), fun b nb => ⟨sz_of (by show 2 ≤ _; decide), fun a na =>
    q (.ref a) _ (((e2.trans e3).trans e4).trans ((Ex.new nb).trans (Ex.new na))) ⟨a, b, rfl, upd_same, by rw [upd_ne (ne_of_none upd_same na)]; exact upd_same⟩⟩⟩
theorem evp_lst1 {Po : V → Hp → Prop} (h : EvP te σ H Po) : EvP (tLst (tCons te tNil)) σ H (fun v H' => ∃ l v1 H1, v = .ref l ∧ H l = none ∧ Po v1 H1 ∧ H1 l = none ∧ H' = upd H1 l (.lst [v1])) := fun H1 e Q q =>
  h H1 e _ fun v H2 e2 hv => ⟨sz_of (by show 1 ≤ _; decide), fun l nl => q _ _ (e2.trans (Ex.new nl)) ⟨l, v, H2, rfl, fresh_back (e.trans e2) nl, hv, nl, rfl⟩⟩
theorem evp_imp {Po Po' : V → Hp → Prop} (h : EvP te σ H Po) (k : ∀ v H', Po v H' → Po' v H') : EvP te σ H Po' := fun H1 e Q q => h H1 e Q fun v H2 e2 p => q v H2 e2 (k v H2 p)
theorem evp_found1 {m : Nat} {o : Option Nat} {i : It} (h1 : Ev t1 σ H (itV i)) (h2 : Ev t2 σ H (oV o)) (h3 : Ev t3 σ H (nV m)) : EvP (tLst (tCons (tTup (tCons t1 (tCons (tTup (tCons t2 (tCons t3 tNil))) tNil))) tNil)) σ H (fun v H' => ∃ l, v = .ref l ∧ H l = none ∧ FndAt H' l [(i, o, m)]) := evp_imp (evp_lst1 (evp_pair h1 h2 h3)) fun v H' hv => by
  obtain ⟨l, v1, H1, rfl, nl, ⟨a, b, rfl, ha, hb⟩, nl1, rfl⟩ := hv
  exact ⟨l, rfl, nl, [a], upd_same, .cons ⟨b, exu (Ex.new nl1) ha, exu (Ex.new nl1) hb⟩ .nil⟩
/-- [(item, (there, m)) for item, there in ..] -/
theorem evp_lcMv {xs : List (It × Option Nat)} {j1 j2 m : Nat} {vs : List Nat} (h : EvP tl σ H (fun v H' => ∃ l, v = .ref l ∧ ObsAt H' l (xs.map mvO))) (hz : xs.length ≤ 1000) (hw : ∀ x y, wipe (((wipe σ vs).set j1 x).set j2 y) vs = wipe σ vs)
    (he : ∀ x ∈ xs, ∀ H1, Ex H H1 → EvP te (((wipe σ vs).set j1 (some (itV x.1))).set j2 (some (oV x.2))) H1 (fun v H' => ∃ a b, v = .ref a ∧ H' a = some (.tup [itV x.1, .ref b]) ∧ H' b = some (.tup [oV x.2, nV m]))) :
    EvP (tLc (iList K tl) (gTup K 2 (gCons (gName j1) (gCons (gName j2) gNil))) tYes te vs) σ H (fun v H' => ∃ l, v = .ref l ∧ FndAt H' l (xs.map fun x => (x.1, x.2, m))) := fun H0 e Q q => h H0 e _ fun v H1 e1 ⟨l, ev, as, hl, hp⟩ => by
  subst ev
  have hlen : as.length = xs.length := by rw [paired_len hp, List.length_map]
  refine ⟨l, rfl, ⟨_, sq_of hl⟩, fun Dl hD => lc_list (xs := as.map V.ref) (fun i H' => Ex H1 H' ∧ ∃ bs : List Addr, H' Dl = some (.lst (bs.map V.ref)) ∧ Paired (fnP H') bs ((xs.take i).map fun x => (x.1, x.2, m))) ⟨Ex.new hD, [], upd_same, .nil⟩ (fun i H' _ p => sq_of (exu p.1 hl)) ?_ ?_⟩
  · rintro i x H' hx ⟨e2, bs, h1, h2⟩
    rw [List.getElem?_map] at hx
    obtain ⟨a, ha, rfl⟩ := Option.map_eq_some_iff.mp hx
    have hi : i < xs.length := by
      have := (List.getElem?_eq_some_iff.mp ha).1
      omega
    obtain ⟨a', q1, q2⟩ := paired_get hp (i := i) (y := mvO xs[i]) (by rw [List.getElem?_map, List.getElem?_eq_getElem hi]; rfl)
    rw [ha] at q1
    cases q1
    have etake : xs.take (i + 1) = xs.take i ++ [xs[i]] := by
      rw [List.take_add_one, List.getElem?_eq_getElem hi]
      rfl
    refine ⟨a, [itV xs[i].1, oV xs[i].2], rfl, st_of (exu e2 q2), rfl, _, [_], rfl, _, [], rfl, rfl, hw _ _, ?_⟩
    show te _ H' _
    refine he xs[i] (List.getElem_mem hi) H' ((e.trans e1).trans e2) H' (Ex.refl _) _ fun v H3 e3 ⟨c, b, ev, hc, hb⟩ => ?_
    subst ev
    have h1' := exu e3 h1
    have nt : ∀ u, H3 Dl ≠ some (.tup u) := fun u z => by
      rw [h1'] at z
      cases z
    have hbl : bs.length = i := by
      rw [paired_len h2, List.length_map, List.length_take]
      omega
    refine ⟨_, h1', by rw [List.length_map, hbl]; exact sz_lt (by omega), (e2.trans e3).mut hD, bs ++ [c], ?_, ?_⟩
    · rw [upd_same, List.map_append]
      rfl
    · rw [etake, List.map_append]
      exact fns_tex (tex_upd nt) (paired_app (fns_tex (tex_of e3) h2) (.cons ⟨b, hc, hb⟩ .nil))
  · rintro H' ⟨e2, bs, h1, h2⟩
    rw [List.length_map, hlen, List.take_length] at h2
    exact q _ _ (e1.trans e2) ⟨Dl, rfl, bs, h1, h2⟩
/-- found += [..] -/
theorem s_augF {j l : Nat} {fs gs : List Fn} (hj : σ[j]? = some (some (.ref l))) (hl : FndAt H l fs) (h : EvP te σ H (fun v H' => ∃ b, v = .ref b ∧ FndAt H' b gs)) (hz : fs.length + gs.length ≤ 1000) (hset : σ.set j (some (.ref l)) = σ)
    (k : ∀ H1 xs, Ex H H1 → FndAt (upd H1 l (.lst xs)) l (fs ++ gs) → D.nx σ (upd H1 l (.lst xs))) : tAug j te rExt2 D σ H := ⟨.ref l, hj, h H (Ex.refl H) _ fun v H1 e ⟨b, ev, bs, hb, hbp⟩ => by
  subst ev
  obtain ⟨as, ha, hap⟩ := hl.mono e
  refine ⟨l, b, _, _, rfl, rfl, ha, hb, sz_of (by rw [List.length_map, List.length_map, paired_len hap, paired_len hbp]; omega), ?_⟩
  show D.nx (σ.set j (some (.ref l))) _
  rw [hset]
  have nt : ∀ u, H1 l ≠ some (.tup u) := fun u z => by
    rw [ha] at z
    cases z
  refine k H1 _ e ⟨as ++ bs, ?_, fns_tex (tex_upd nt) (paired_app hap hbp)⟩
  rw [upd_same, List.map_append]⟩
/-- loops over lists of (item, state) -/
theorem s_forFnd {l : Addr} {fs : List Fn} {j1 j2 : Nat} (h : Ev te σ H (.ref l)) (hl : FndAt H l fs) (Pv : Nat → L2.St → Hp → Prop) (h0 : ∀ H1, Ex H H1 → Pv 0 σ H1)
    (hk : ∀ i σ' H', Pv i σ' H' → TEx H H' ∧ ∀ u, H l = some (.lst u) → H' l = some (.lst u))
    (hs : ∀ i x b σ' H', fs[i]? = some x → Pv i σ' H' → H' b = some (.tup [oV x.2.1, nV x.2.2]) → tu { D with nx := Pv (i + 1), ct := Pv (i + 1), bk := D.nx } ((σ'.set j1 (some (itV x.1))).set j2 (some (.ref b))) H')
    (hd : ∀ σ' H', Pv fs.length σ' H' → D.nx σ' H') : tFor (iList K te) (gTup K 2 (gCons (gName j1) (gCons (gName j2) gNil))) tu D σ H := by
  obtain ⟨as, h1, h2⟩ := hl
  have hlen := paired_len h2
  refine s_forL h (sq_of h1) Pv h0 (fun i σ' H' _ p => sq_of ((hk i σ' H' p).2 _ h1)) (fun i x σ' H' hx p => ?_) fun σ' H' p => hd σ' H' (by rw [List.length_map, hlen] at p; exact p)
  rw [List.getElem?_map] at hx
  obtain ⟨a, ha, rfl⟩ := Option.map_eq_some_iff.mp hx
  have hi : i < fs.length := by
    have := (List.getElem?_eq_some_iff.mp ha).1
    omega
  obtain ⟨a', q1, b, q2, q3⟩ := paired_get h2 (i := i) (y := fs[i]) (List.getElem?_eq_getElem hi)
  rw [ha] at q1
  cases q1
  have kt := (hk i σ' H' p).1
  exact ⟨a, _, rfl, st_of (kt _ _ q2), rfl, _, [_], rfl, _, [], rfl, rfl, hs i fs[i] b σ' H' (List.getElem?_eq_getElem hi) p (kt _ _ q3)⟩
theorem q_whenM {b : Bool} (Mid : L2.St → Hp → Prop) (h : EvT t σ H b) (h1 : b = true → ∀ H1, Ex H H1 → ∀ N : L2.St → Hp → Prop, (∀ σ' H', Mid σ' H' → N σ' H') → tu { D with nx := N } σ H1) (h2 : b = false → ∀ H1, Ex H H1 → Mid σ H1)
    (k : ∀ σ' H', Mid σ' H' → tz D σ' H') : tSeq (tIfS t tu tNext) tz D σ H := q_when h (fun hb H1 e1 => h1 hb H1 e1 _ k) fun hb H1 e1 => k _ _ (h2 hb H1 e1)
end
/-! ### a list of states, or [] -/
section
variable {K : PySem.W.Frag} {H : Hp}
def stD (s : Ks) : PyData := .tuple [.int s.1, .int s.2]
theorem dp_sts : ∀ {as : List Addr} {ks : List Ks}, Paired (stP H) as ks → DpAll K H (as.map V.ref) (ks.map stD)
  | _, _, .nil => .nil
  | _, _, .cons r t => .cons (.tup (st_of r) (.cons (.int _) (.cons (.int _) .nil))) (dp_sts t)
theorem lay_sts : ∀ ks : List Ks, PyData.canLayAll0 (ks.map stD) = true
  | [] => by simp [PyData.canLayAll0]
  | s :: ks => by simp [PyData.canLayAll0, PyData.canLay0, stD, lay_sts ks]
theorem depth_sts : ∀ ks : List Ks, PyData.depthAll (ks.map stD) ≤ 3
  | [] => by simp [PyData.depthAll]
  | s :: ks => by
    have h := depth_sts ks
    simp only [List.map_cons, PyData.depthAll, PyData.depth, stD]
    omega
theorem shaped_sts (ks : List Ks) : SeqAt.shaped (.list (ks.map stD)) = true := by
  have h := depth_sts ks
  refine shaped_of ?_ ?_
  · simp only [PyData.canLay0]
    exact lay_sts ks
  · simp only [PyData.depth]
    omega
theorem eqv_sts (ks : List Ks) : PyData.eqv (.list (ks.map stD)) (.list []) = decide (ks = []) := by
  rw [PyData.eqv]
  cases ks with
  | nil => simp [PyData.eqvAll]
  | cons s ks => simp [PyData.eqvAll]
theorem rv_neSts {p q : Addr} {as : List Addr} {ks : List Ks} (h1 : H p = some (.lst (as.map V.ref))) (hp : Paired (stP H) as ks) (h2 : H q = some (.lst [])) : RV (rNeD K) (.ref p) (.ref q) H (.bl (!decide (ks = []))) := fun H1 e _ k =>
  ⟨_, _, .lst (sq_of (exu e h1)) (dp_sts (sts_tex (tex_of e) hp)), .lst (sq_of (exu e h2)) .nil, shaped_sts ks, by simpa using shaped_sts [], by rw [eqv_sts]; exact k H1 (Ex.refl H1)⟩
end
end K78

/-! K78w7: shortest_lost. -/
namespace K78
open PySem PySem.Spec PyProof.Rows L2 Evl
local macro_rules | `(tactic| walk_at "sq") => `(tactic| first | exact sq_of (by assumption) | assumption)
local macro_rules | `(tactic| walk_at "at") => `(tactic| first | exact atI_nat (by assumption) | assumption)
local macro_rules | `(tactic| walk_at "side") => `(tactic| first | assumption | exact ⟨by decide, by decide⟩ | decide | omega)
local macro_rules | `(tactic| walk_at "rv") => `(tactic| first
  | exact rv_I0
  | exact rv_eq rfl
  | exact rv_ne rfl
  | (refine' rv_ixL ?h ?a; (case h => walk_at "sq"); (case a => walk_at "at"))
  | (refine' rv_I ?c; (case c => walk_at "side")))
local macro_rules | `(tactic| walk_at "ev") => `(tactic| first
  | exact ev_var rfl
  | exact ev_c
  | (refine' ev_isi ?a ?b (.ty _) ?c ?d; (case a => walk_at "ev"); (case b => walk_at "ev"); (case c => first | exact ty_int | exact ty_str | exact ty_lst (by assumption)); (case d => first | exact kit_ty k_ii | exact kit_ty k_ib | exact kit_ty k_si | exact kit_ty k_ll | exact kit_ty k_ss))
  | (refine' ev_op ?a ?b ?c; (case a => walk_at "ev"); (case b => walk_at "ev"); (case c => walk_at "rv"))
  | (refine' ev_un ?a ?b; (case a => walk_at "ev"); (case b => exact ru_neg))
  | (refine' ev_isN ?a; (case a => walk_at "ev"))
  | (refine' ev_notN ?a; (case a => walk_at "ev"))
  | (refine' ev_orV1 (ev_is ?a ?b); (case a => walk_at "ev"); (case b => decide))
  | (refine' ev_andV0 (ev_is ?a ?b); (case a => walk_at "ev"); (case b => decide))
  | (refine' ev_andV ?a ?b; (case a => walk_at "ev"); (case b => intro _; walk_at "ev"))
  | (refine' ev_orV ?a ?b; (case a => walk_at "ev"); (case b => intro _; walk_at "ev"))
  | (refine' ev_notV ?a; (case a => walk_at "ev"))
  | (refine' ev_len ?a ?b; (case a => walk_at "ev"); (case b => walk_at "sq"))
  | (refine' ev_chain ?a ?b ?c ?d ?e; (case a => walk_at "ev"); (case b => walk_at "ev"); (case c => walk_at "rv"); (case d => intro _; walk_at "ev"); (case e => intro _; walk_at "rv")))
local macro_rules | `(tactic| walk_at "et") => `(tactic| first
  | (refine' et_test ?a; (case a => walk_at "ev"))
  | (refine' et_B ?a; (case a => walk_at "ev"))
  | (refine' et_not ?a; (case a => walk_at "et"))
  | (refine' et_or1 (et_is ?a ?b); (case a => walk_at "et"); (case b => decide))
  | (refine' et_and0 (et_is ?a ?b); (case a => walk_at "et"); (case b => decide))
  | (refine' et_and ?a ?b; (case a => walk_at "et"); (case b => intro _; walk_at "et"))
  | (refine' et_or ?a ?b; (case a => walk_at "et"); (case b => intro _; walk_at "et")))
section
variable {P : Program} {w : World} {K : PySem.W.Frag} {mg : Str → Option Value} {base : Heap}
def LostP (p : Plan) (g : Nat) : V → Hp → Prop := fun v H' => ∃ a its, v = .ref a ∧ H' a = some (.lst (its.map itV)) ∧ ValidLost p g its ∧ its.length ≤ 1000
def sp_shortest_lost : Sp := fun vs H Q _ => ∃ (r : Addr) (p : Plan) (g : Nat), vs = [.ref r, nV g] ∧ RuleAt H r p ∧ RuleOk p ∧ g ≤ 100 ∧ (¬ LostG p g → RetV .non H Q) ∧ (LostG p g → RetP (LostP p g) H Q)
def kL (s : Ks) : List Key := [kM s.1, kM s.2]
theorem kL_inj {a b : Ks} (h : kL a = kL b) : a = b := by
  injection h with h1 h2
  injection h2 with h2 h3
  exact Prod.ext (kM_inj h1) (kM_inj h2)
theorem kL_map {l : List Ks} : (l.map kL).Nodup ↔ l.Nodup := by
  unfold List.Nodup
  rw [List.pairwise_map]
  exact ⟨fun h => h.imp fun z e => z (by rw [e]), fun h => h.imp fun z e => z (kL_inj e)⟩
theorem kL_mem {l : List Ks} {x : Ks} : kL x ∈ l.map kL ↔ x ∈ l := by
  rw [List.mem_map]
  exact ⟨fun ⟨y, hy, e⟩ => kL_inj e ▸ hy, fun h => ⟨x, h, rfl⟩⟩
def kfL (x : Ks × List It) : List Key := kL x.1
theorem kfL_map {ws : Ws Ks} : ws.map kfL = (keys ws).map kL := by
  unfold keys
  rw [List.map_map]
  rfl
def PL (ws : Ws Ks) : Prop := ∀ s its, (s, its) ∈ ws → its.length + 1 ≤ ws.length
theorem PL.add {ws : Ws Ks} (h : PL ws) {s s2 : Ks} {its : List It} {i : It} (hs : (s, its) ∈ ws) : PL (ws ++ [(s2, its ++ [i])]) := by
  intro u js hu
  rw [List.length_append]
  rcases List.mem_append.mp hu with z | z
  · have := h u js z
    show _ ≤ ws.length + 1
    omega
  · have e := List.mem_singleton.mp z
    injection e with e1 e2
    rw [e2, List.length_append]
    have := h s its hs
    show its.length + 1 + 1 ≤ ws.length + 1
    omega
theorem mv_len {p : Plan} (ok : RuleOk p) (q : Nat) : (mv p q).length ≤ 6 := by
  have := ok.hi
  have h2 := List.length_filter_le (fun h => decide (h ≠ q)) (List.range p.length)
  rw [List.length_range] at h2
  unfold mv
  rw [List.length_cons, List.length_map]
  omega
theorem ok_shortest_lost (T : Tx K mg) : FnOk P w K mg base CX0 2 T.a_shortest_lost T.d_shortest_lost ["rule", "gap"] sp_shortest_lost := by
  refine T.h_shortest_lost.F.ok sc_shortest_lost (fun vs H Q E h => ?_) (fun cdv A outer s H vs Q E hr h => ?_)
  · obtain ⟨r, p, g, rfl, _⟩ := h
    rfl
  · obtain ⟨r, p, g, rfl, hR, ok, hg, k⟩ := h
    have hu := hu_of hr
    have h5 := ok.hi
    have h2 := ok.lo
    refine ⟨_, (pss_cons (ps_set (i := 2) sc_shortest_lost.nd rfl (.inl rfl) (pe_tup (pa_cons (pe_op op_sub (pe_callB (call_len_seqK (K := K) rfl) (by rfl) T.z_len PySem.boot_len (pa_cons (pv 0) pa_nil)) pe_int) (pa_cons pe_int pa_nil))))
      (pss_cons (ps_par (i := 3) (j := 4) (by rfl) sc_shortest_lost.nd rfl rfl (by decide) rfl rfl (pa_cons (pe_dispT1 hu (pv 2) (pe_lst pa_nil)) (pa_cons (pe_lst (pa_cons (pv 2) pa_nil)) pa_nil)) (by rfl))
      (pss_cons (ps_while PassesOwn.never (pt_cmpR (op_neD hr.units) (pv 4) (pe_lst pa_nil) (nomark _))
      (pss_cons (ps_set (i := 5) sc_shortest_lost.nd rfl (.inl rfl) (pe_lst pa_nil))
      (pss_cons (ps_for PassesOwn.never rfl (pi_list (pv 4)) (pg_name (i := 6) sc_shortest_lost.nd rfl (.inl rfl))
      (pss_cons (ps_asg (pv 6) (pg_tup rfl (pgs_cons (pg_name (i := 7) sc_shortest_lost.nd rfl (.inl rfl)) (pgs_cons (pg_name (i := 8) sc_shortest_lost.nd rfl (.inr rfl)) pgs_nil))))
      (pss_cons (ps_set (i := 9) sc_shortest_lost.nd rfl (.inl rfl) (pe_lst (pa_cons (pe_tup (pa_cons (pe_glob (v := .str "own") rfl T.g_OWN ⟨_, rfl⟩) (pa_cons (pe_tup (pa_cons (pe_ix (ix_listK (K := K) rfl) (pe_ix (ix_listK (K := K) rfl) (pv 0) (pv 7) (fun _ _ => rfl)) (pv 7) (fun _ _ => rfl)) (pa_cons pe_int pa_nil))) pa_nil))) pa_nil)))
      (pss_cons (ps_if (pt_cmpR op_lt (pv 8) (pv 1) (nomark _))
      (pss_one (ps_aug (i := 9) sc_shortest_lost.nd rfl (.inl rfl) (pe_lc (own := [("item", 10), ("there", 12)]) (g := gTup K 2 (gCons (gName 10) (gCons (gName 12) gNil))) (tt := tYes) rfl sc_shortest_lost.nd (pi_list (pe_call (ok_moves_at T) (hr.mono (by decide)) (by rfl) T.h_moves_at.g T.h_moves_at.kp T.h_moves_at.b .nil pass0 (pa_cons (pv 0) (pa_cons (pv 7) pa_nil)))) (blkOk_by (own := [("item", 10), ("there", 12)]) (N := ["rule", "gap", "start", "ways", "waiting", "later", "here", "place", "many", "found", "item", "state", "there"]) (sc := defScope s_shortest_lost) (by decide +kernel)) (fun _ _ _ _ _ => pg_tup rfl (pgs_cons (pg_name (i := 10) sc_shortest_lost.nd rfl (.inl rfl) (.inr rfl)) (pgs_cons (pg_name (i := 12) sc_shortest_lost.nd rfl (.inl rfl) (.inr rfl)) pgs_nil))) (fun _ _ _ _ _ => pts_nil) (fun _ _ _ _ _ => (pe_tup (pa_cons (pv 10) (pa_cons (pe_tup (pa_cons (pv 12) (pa_cons (pe_op op_add (pv 8) pe_int) pa_nil))) pa_nil))))) (ip_of iop_ext)))
      pss_nil)
      (pss_one (ps_for PassesOwn.never rfl (pi_list (pv 9)) (pg_tup rfl (pgs_cons (pg_name (i := 10) sc_shortest_lost.nd rfl (.inl rfl)) (pgs_cons (pg_name (i := 11) sc_shortest_lost.nd rfl (.inl rfl)) pgs_nil)))
      (pss_cons (ps_if (pt_cmp (pc_isN (pe_ix (ix_tupK (K := K) rfl) (pv 11) pe_int (fun _ _ => rfl))))
      (pss_one (ps_ret (pe_lst (StX.pa_star (pe_dget hu (pv 3) (pv 6) (fun _ _ => rfl)) (pa_cons (pv 10) pa_nil)))))
      pss_nil)
      (pss_one (ps_if (pt_cmp (pc_dnotin hu (pv 11) (pv 3)))
      (pss_cons (ps_dput hu (pv 3) (pv 11) (pe_lst (StX.pa_star (pe_dget hu (pv 3) (pv 6) (fun _ _ => rfl)) (pa_cons (pv 10) pa_nil))) rfl)
      (pss_one (ps_expr (pe_bm PySem.F.plainAttrs_list PySem.F.slot_list_append PySem.F.type_list_append mt_append (pv 5) (pa_cons (pv 11) pa_nil)))))
      pss_nil)))))))))
      (pss_one (ps_set (i := 4) sc_shortest_lost.nd rfl (.inl rfl) (pv 5))))))
      (pss_one (ps_ret pe_non))))), ?_⟩
    refine q_asgU (eu_tup (ea_cons (ev_is (ev_op (len_rule hR (ev_var rfl)) ev_c rv_I0) (?_ : _ = nV (p.length - 1))) (ea_cons ev_c ea_nil)) len2) fun st H1 nst e1 hst => ?_
    · show V.int ((p.length : Int) - 1) = V.int ((p.length - 1 : Nat) : Int)
      congr 1
      omega
    have hst : stP H1 st (p.length - 1, 0) := hst
    -- ways, waiting = {start: []}, [start]
    intro d nd
    have sd : st ≠ d := ne_of_none hst nd
    refine ⟨_, rfl, Nat.zero_le _, fun t0 nt0 => ?_⟩
    have dt : d ≠ t0 := ne_of_none upd_same nt0
    have hs2 : (upd H1 d (.dT [])) st = some (.tup [nV (p.length - 1), nV 0]) := by
      rw [upd_ne sd]
      exact hst
    have stt : st ≠ t0 := ne_of_none hs2 nt0
    refine ⟨st, kL (p.length - 1, 0), rfl, by rw [upd_ne stt]; exact hs2, by rw [upd_ne dt]; exact upd_same, ?_⟩
    refine ⟨_, rfl, by show 1 ≤ _; decide, fun wl nwl => ⟨_, _, rfl, ?_⟩⟩
    have dw : d ≠ wl := ne_of_none upd_same nwl
    have nd0 : H d = none := fresh_back e1 nd
    have ht4 : (upd (upd (upd H1 d (.dT [])) t0 (.lst [])) d (.dT [(kL (p.length - 1, 0), .ref t0)])) t0 = some (.lst []) := by
      rw [upd_ne dt.symm]
      exact upd_same
    have hs4 : (upd (upd (upd H1 d (.dT [])) t0 (.lst [])) d (.dT [(kL (p.length - 1, 0), .ref t0)])) st = some (.tup [nV (p.length - 1), nV 0]) := by
      rw [upd_ne sd, upd_ne stt]
      exact hs2
    have tw : t0 ≠ wl := ne_of_none ht4 nwl
    have sw : st ≠ wl := ne_of_none hs4 nwl
    have e5 := ((e1.trans ((Ex.new nd).trans (Ex.new nt0))).mut (o := .dT [(kL (p.length - 1, 0), .ref t0)]) nd0).trans (Ex.new (o := .lst [.ref st]) nwl)
    refine q_while (fun m σ' H' => ∃ wt ws wl wts y5 y6 y7 y8 y9 y10 y11 y12, m + ws.length = p.length * (g + 1) + (if wt = [] then 0 else 1) ∧ σ' = [some (.ref r), some (nV g), some (.ref st), some (.ref d), some (.ref wl), y5, y6, y7, y8, y9, y10, y11, y12] ∧
      Ex H H' ∧ H' wl = some (.lst (wts.map V.ref)) ∧ Paired (stP H') wts wt ∧ (∃ kvs, H' d = some (.dT kvs) ∧ KvAt kfL vfL H' kvs ws) ∧ InvL p g wt ws [] ∧ PL ws) (p.length * (g + 1))
      ⟨[(p.length - 1, 0)], [((p.length - 1, 0), [])], wl, [st], _, _, _, _, _, _, _, _, rfl, rfl, e5, upd_same, .cons (by show (upd _ wl _) st = _; rw [upd_ne sw]; exact hs4) .nil, ⟨[(kL (p.length - 1, 0), .ref t0)], by rw [upd_ne dw]; exact upd_same, .cons ⟨rfl, t0, rfl, by show (upd _ wl _) t0 = _; rw [upd_ne tw]; exact ht4⟩ .nil⟩, invL_0, ?_⟩ ?_
    · intro s its h
      have e := List.mem_singleton.mp h
      injection e with e1 e2
      rw [e2]
      exact Nat.le_refl 1
    rintro m σ' H0 ⟨wt, ws, wl, wts, y5, y6, y7, y8, y9, y10, y11, y12, hm, rfl, e0, hwl, hwts, ⟨kvs, hd, hkv⟩, I0, P0⟩
    refine ⟨!decide (wt = []), et_test (ev_opL (ev_var rfl) (el_lst ea_nil (Nat.zero_le _)) fun q H1 hq e => rv_neSts (exu e hwl) (sts_tex (tex_of e) hwts) hq), fun hb H1 e1 => ⟨_, fun σ2 H2 h => h, ?_⟩, fun hb H1 e1 => ?_⟩
    rotate_left
    · have hwt : wt = [] := by simpa using hb
      subst hwt
      exact s_retV rfl ev_c fun H2 e2 => k.1 I0.not_lost _ ((e0.trans e1).trans e2)
    have hwt : wt ≠ [] := by simpa using hb
    rw [if_neg hwt] at hm
    refine q_asgL (el_lst ea_nil (Nat.zero_le _)) fun la H2 nla e2 hla => ?_
    have e12 := e1.trans e2
    have hwl2 := exu e12 hwl
    have hd2 := exu e12 hd
    have hwts2 := sts_tex (tex_of e12) hwts
    have W0 : WS kfL HO.dT H2 H2 d la ws (([] : List Addr).map V.ref) := ⟨del2_ex, ⟨kvs, hd2, ways_fresh (hkv.map fun t x hx => exu e1 hx) nla e2⟩, hla⟩
    have hwlB : del2 H2 d la wl = some (.lst (wts.map V.ref)) := del2_put hwl2 (fun e => by rw [e, hd2] at hwl2; cases hwl2) (ne_of_none (exu e1 hwl) nla)
    have eB : Ex H (del2 H2 d la) := ex_del2f (e0.trans e12) nd0 (fresh_back (e0.trans e1) nla)
    have hRB := hR.mono eB
    refine q_forLn (ev_var rfl) (sq_of hwl2) (fun i σ' H' => ∃ ws' lt lts y6 y7 y8 y9 y10 y11 y12, σ' = [some (.ref r), some (nV g), some (.ref st), some (.ref d), some (.ref wl), some (.ref la), y6, y7, y8, y9, y10, y11, y12] ∧
      WS kfL HO.dT H2 H' d la ws' (lts.map V.ref) ∧ Paired (stP H') lts lt ∧ InvL p g wt ws' lt ∧ PL ws' ∧ ws'.length = ws.length + lt.length ∧ ∀ s ∈ wt.take i, Cl p g (keys ws') s)
      (fun H3 e3 => ⟨ws, [], [], y6, y7, y8, y9, y10, y11, y12, rfl, W0.mono e3, .nil, I0, P0, rfl, fun _ z => by simp at z⟩) (fun i σ' H' _ ⟨_, _, _, _, _, _, _, _, _, _, _, W, _⟩ => sq_of (W.ex _ _ hwlB)) ?_ ?_
    · rintro i x σ' H3 hx ⟨ws', lt, lts, z6, z7, z8, z9, z10, z11, z12, rfl, W3, L3, I3, P3, n3, hdone⟩
      have hil : i < wt.length := by
        have := (List.getElem?_eq_some_iff.mp hx).1
        rw [List.length_map, paired_len hwts2] at this
        exact this
      obtain ⟨a, ha, hsa⟩ := paired_get hwts2 (List.getElem?_eq_getElem hil)
      obtain ⟨s, hh⟩ : ∃ s, wt[i] = s := ⟨_, rfl⟩
      rw [hh] at hsa
      have hh : wt[i]? = some s := by rw [List.getElem?_eq_getElem hil, hh]
      rw [List.getElem?_map, ha] at hx
      cases hx
      have hw : s ∈ wt := List.mem_of_getElem? hh
      have hsk := I3.wk s hw
      have hlt := ((I3.rs s hsk).lt ok).1
      have hR3 := hRB.mono W3.ex
      have T3 : TEx H2 H3 := W0.tex dT_tup W3
      have hsa3 : stP H3 a s := hsa.tex T3
      -- place, many = here
      refine ⟨.ref a, rfl, a, [nV s.1, nV s.2], rfl, st_of hsa3, rfl, _, [_], rfl, _, [], rfl, rfl, ?_⟩
      -- found = [(OWN, ..)]
      refine q_asgP (evp_found1 (i := .own) (o := some (rg p s.1 s.1)) (m := 0) ev_c (ev_rule ok hR3 (ev_var rfl) (ev_var rfl) (ev_var rfl) hlt hlt) ev_c) fun v H4 e4 hv => ?_
      obtain ⟨l, rfl, nl, hf⟩ := hv
      have hml := mv_len ok s.1
      refine q_whenM (b := decide (s.2 < g)) (fun σ' H' => σ' = [some (.ref r), some (nV g), some (.ref st), some (.ref d), some (.ref wl), some (.ref la), some (.ref a), some (nV s.1), some (nV s.2), some (.ref l), z10, z11, z12] ∧ Ex H3 H' ∧ FndAt H' l (found p g s))
        (et_is (et_test (ev_op (ev_var rfl) (ev_var rfl) rv_I0)) (decide_eq_decide.mpr (by show (s.2 : Int) < (g : Int) ↔ s.2 < g; omega))) (fun hb H5 e5 N hN => ?_) (fun hb H5 e5 => ?_) ?_
      · have c := of_decide_eq_true hb
        refine s_augF rfl (hf.mono e5) (evp_lcMv (xs := mv p s.1) (m := s.2 + 1) (evp_call (ea_cons (ev_var rfl) (ea_cons (ev_var rfl) ea_nil)) (spp_moves (hR3.mono (e4.trans e5)) ok hlt)) (by omega) (fun _ _ => rfl) fun x hx H6 e6 => evp_pair (ev_var rfl) (ev_var rfl) (ev_is (ev_op (ev_var rfl) ev_c rv_I0) rfl)) (by rw [List.length_map]; show 1 + _ ≤ _; omega) rfl
          fun H6 xs e6 hF => hN _ _ ⟨rfl, ((e4.trans e5).trans e6).mut nl, ?_⟩
        unfold found
        rw [if_pos c]
        exact hF
      · have c := of_decide_eq_false hb
        refine ⟨rfl, e4.trans e5, ?_⟩
        unfold found
        rw [if_neg c]
        exact hf.mono e5
      rintro σ' Hb ⟨rfl, eb, hF⟩
      have WB := (W3.mono eb).base
      obtain ⟨kvs3, hd3, _⟩ := W3.dict
      have ld : l ≠ d := (ne_of_none hd3 nl).symm
      have lla : l ≠ la := (ne_of_none W3.lat nl).symm
      refine s_forFnd (ev_var rfl) hF (fun j σ' H' => ∃ ws2 lt2 lts2 y10 y11, σ' = [some (.ref r), some (nV g), some (.ref st), some (.ref d), some (.ref wl), some (.ref la), some (.ref a), some (nV s.1), some (nV s.2), some (.ref l), y10, y11, z12] ∧
        WS kfL HO.dT Hb H' d la ws2 (lts2.map V.ref) ∧ Paired (stP H') lts2 lt2 ∧ InvL p g wt ws2 lt2 ∧ PL ws2 ∧ ws2.length = ws.length + lt2.length ∧ (∀ k ∈ keys ws', k ∈ keys ws2) ∧ ∀ y ∈ (found p g s).take j, ∃ q, y.2.1 = some q ∧ (q, y.2.2) ∈ keys ws2)
        (fun H4 e4 => ⟨ws', lt, lts, z10, z11, rfl, WB.mono e4, sts_tex (tex_of (eb.trans e4)) L3, I3, P3, n3, fun _ h => h, fun _ z => by simp at z⟩) ?_ ?_ ?_
      · rintro j σ' H' ⟨ws2, lt2, lts2, y10, y11, rfl, W4, _⟩
        exact ⟨WB.tex dT_tup W4, fun u h => W4.ex _ _ (del2_put h ld lla)⟩
      · rintro j x b σ' H' hx ⟨ws2, lt2, lts2, y10, y11, rfl, W4, L4, I4, P4, n4, sub, done⟩ hb
        obtain ⟨item, there, mm⟩ := x
        have hm : (item, there, mm) ∈ found p g s := List.mem_of_getElem? hx
        obtain ⟨kvs4, hd4, hk4⟩ := W4.dict
        have hkn : (ws2.map kfL).Nodup := by
          rw [kfL_map]
          exact kL_map.mpr I4.nd
        have T4 : TEx H3 H' := (tex_of eb).trans (WB.tex dT_tup W4)
        have hsa4 : H' a = some (.tup ((kL s).map kV)) := hsa3.tex T4
        obtain ⟨its, hs⟩ := of_keys (I4.wk s hw)
        obtain ⟨tt, g1, g2⟩ := hk4.get hkn hs
        have gd : DGet H' d (.ref a) (some (.ref tt)) := by
          have := DGet.t (k := kL s) hd4 hsa4
          rw [show valV kvs4 (kL s) = _ from g1] at this
          exact this
        have hn := (I4.len ok).1
        have hn5 : p.length * (g + 1) ≤ 5 * 101 := Nat.mul_le_mul h5 (by omega)
        have hil := P4 s its hs
        have hl : (its.map itV ++ [itV item]).length ≤ 100000 := by
          rw [List.length_append, List.length_map]
          show its.length + 1 ≤ _
          omega
        have emap : its.map itV ++ [itV item] = (its ++ [item]).map itV := by
          rw [List.map_append]
          rfl
        cases there with
        | none =>
          refine q_when (b := true) (et_is (et_B (ev_isN (ev_op (ev_var rfl) ev_c (rv_ixT (st_of hb) (atI_nat (j := 0) rfl))))) (by rfl)) (fun _ H5 e5 => ?_) fun z => Bool.noConfusion z
          refine s_retL (el_lst (ea_star (ev_dget (ev_var rfl) (ev_var rfl) (dget_mono e5 gd)) (exu e5 g2.1) (ea_cons (ev_var rfl) ea_nil)) hl) fun c H6 _ e6 hc => ?_
          obtain ⟨o1, o2⟩ := I4.out hs hm
          exact k.2 o1 _ _ ((eB.trans ((W3.mono eb).up W4).ex).trans (e5.trans e6)) ⟨c, its ++ [item], rfl, by rw [← emap]; exact hc, o2, by rw [List.length_append]; show its.length + 1 ≤ 1000; omega⟩
        | some q =>
          refine q_ifno (et_is (et_B (ev_isN (ev_op (ev_var rfl) ev_c (rv_ixT (st_of hb) (atI_nat (j := 0) rfl))))) (by rfl)) fun H5 e5 => ?_
          have W5 := W4.mono e5
          have hb5 : H5 b = some (.tup ((kL (q, mm)).map kV)) := exu e5 hb
          by_cases hin : (q, mm) ∈ keys ws2
          · obtain ⟨its2, hs2⟩ := of_keys hin
            obtain ⟨t2, g3, _⟩ := hk4.get hkn hs2
            have g := DGet.t (k := kL (q, mm)) (exu e5 hd4) hb5
            rw [show valV kvs4 (kL (q, mm)) = _ from g3] at g
            refine s_ifno (et_is (et_B (ev_dnotin (ev_var rfl) (ev_var rfl) g)) (by rfl)) fun H6 e6 => ?_
            refine ⟨ws2, lt2, lts2, _, _, rfl, W5.mono e6, sts_tex (tex_of (e5.trans e6)) L4, I4, P4, n4, sub, fun y hy => ?_⟩
            rw [take_snoc hx] at hy
            rcases List.mem_append.mp hy with z | z
            · exact done y z
            · rw [List.mem_singleton.mp z]
              exact ⟨q, rfl, hin⟩
          · have hnk : kL (q, mm) ∉ ws2.map kfL := by
              rw [kfL_map]
              exact fun z => hin (kL_mem.mp z)
            have g := DGet.t (k := kL (q, mm)) (exu e5 hd4) hb5
            rw [hk4.none hnk] at g
            refine s_when (b := true) (et_is (et_B (ev_dnotin (ev_var rfl) (ev_var rfl) g)) (by rfl)) (fun _ H6 e6 => ?_) fun z => Bool.noConfusion z
            have e56 := e5.trans e6
            refine q_dputL (el_lst (ea_star (ev_dget (ev_var rfl) (ev_var rfl) (dget_mono e56 gd)) (exu e56 g2.1) (ea_cons (ev_var rfl) ea_nil)) hl) (ev_var rfl) (ev_var rfl) fun z H7 nz e7 hz => ⟨_, DPut.t (k := kL (q, mm)) (exu (e56.trans e7) hd4) (exu (e6.trans e7) hb5) (sz_lt (by rw [hk4.len]; omega)), ?_⟩
            have e57 := e56.trans e7
            have zl : z ≠ la := fun e => by
              have := (W4.mono e56).lat
              rw [← e, nz] at this
              cases this
            have hd7 := exu e57 hd4
            have W8 := (W4.mono e57).put (x := ((q, mm), its ++ [item])) (z := z) dT_lst hd7 (ways_ex hk4 e57) (by rw [← emap]; exact hz) zl hnk
            have T8 : TEx H' (upd H7 d (.dT (putK kvs4 (kL (q, mm)) (.ref z)))) := (tex_of e57).trans (tex_upd fun u z => by rw [hd7] at z; cases z)
            have ll4 : lts2.length ≤ 505 := by
              rw [paired_len L4]
              omega
            refine s_app W8.lat (ev_var rfl) (ev_var rfl) (by rw [List.length_map]; omega) fun H9 e9 => ?_
            have T9 : TEx H' (upd H9 la (.lst (lts2.map V.ref ++ [.ref b]))) := (T8.trans (tex_of e9)).trans (tex_upd fun u z => by rw [(W8.mono e9).lat] at z; cases z)
            refine ⟨ws2 ++ [((q, mm), its ++ [item])], lt2 ++ [(q, mm)], lts2 ++ [b], _, _, rfl, ?_, paired_snoc (sts_tex T9 L4) (T9 _ _ hb), I4.add ok hs hm hin, P4.add hs, by rw [List.length_append, List.length_append, n4]; show _ + _ + 1 = _ + (_ + 1); omega, fun x hx => by rw [keys_app]; exact List.mem_append_left _ (sub x hx), fun y hy => ?_⟩
            · rw [List.map_append]
              exact (W8.mono e9).app dT_lst
            · rw [take_snoc hx] at hy
              rw [keys_app]
              rcases List.mem_append.mp hy with z | z
              · obtain ⟨x, h1, h2⟩ := done y z
                exact ⟨x, h1, List.mem_append_left _ h2⟩
              · rw [List.mem_singleton.mp z]
                exact ⟨q, rfl, List.mem_append_right _ (List.mem_singleton.mpr rfl)⟩
      · rintro σ' H' ⟨ws2, lt2, lts2, y10, y11, rfl, W4, L4, I4, P4, n4, sub, done⟩
        rw [List.take_length] at done
        refine ⟨ws2, lt2, lts2, _, _, _, _, y10, y11, z12, rfl, (W3.mono eb).up W4, L4, I4, P4, n4, fun x hx => ?_⟩
        rw [take_snoc hh] at hx
        rcases List.mem_append.mp hx with z | z
        · exact (hdone x z).grow sub
        · rw [List.mem_singleton.mp z]
          exact cl_of fun i t m hm => done (i, t, m) hm
    · rintro σ' H' ⟨ws', lt, lts, z6, z7, z8, z9, z10, z11, z12, rfl, W3, L3, I3, P3, n3, hdone⟩
      rw [List.length_map, paired_len hwts, List.take_length] at hdone
      refine s_asg (ev_var rfl) fun H4 e4 => ?_
      have hn := (I3.len ok).1
      obtain ⟨kvs3, hd3, hk3⟩ := W3.dict
      refine ⟨p.length * (g + 1) + (if lt = [] then 0 else 1) - ws'.length, ?_, lt, ws', la, lts, _, _, _, _, _, _, _, _, by omega, rfl, eB.trans (W3.ex.trans e4), exu e4 W3.lat, sts_tex (tex_of e4) L3, ⟨kvs3, exu e4 hd3, ways_back (ways_ex hk3 e4)⟩, I3.next hdone, P3⟩
      cases lt with
      | nil =>
        rw [if_pos rfl]
        rw [List.length_nil] at n3
        omega
      | cons x lt =>
        rw [if_neg (fun z => nomatch z)]
        rw [List.length_cons] at n3
        omega
end
end K78

/-! K78w8: is_item, most_others, place_behind. -/
namespace K78
open PySem PySem.Spec PyProof.Rows L2 Evl
local macro_rules | `(tactic| walk_at "sq") => `(tactic| first | exact sq_of (by assumption) | assumption)
local macro_rules | `(tactic| walk_at "at") => `(tactic| first | exact atI_nat (by assumption) | assumption)
local macro_rules | `(tactic| walk_at "side") => `(tactic| first | assumption | exact ⟨by decide, by decide⟩ | decide | omega)
local macro_rules | `(tactic| walk_at "rv") => `(tactic| first
  | exact rv_I0
  | exact rv_eq rfl
  | exact rv_ne rfl
  | (refine' rv_ixL ?h ?a; (case h => walk_at "sq"); (case a => walk_at "at"))
  | (refine' rv_I ?c; (case c => walk_at "side")))
local macro_rules | `(tactic| walk_at "ev") => `(tactic| first
  | exact ev_var rfl
  | exact ev_c
  | (refine' ev_isi ?a ?b (.ty _) ?c ?d; (case a => walk_at "ev"); (case b => walk_at "ev"); (case c => first | exact ty_int | exact ty_str | exact ty_lst (by assumption)); (case d => first | exact kit_ty k_ii | exact kit_ty k_ib | exact kit_ty k_si | exact kit_ty k_ll | exact kit_ty k_ss))
  | (refine' ev_op ?a ?b ?c; (case a => walk_at "ev"); (case b => walk_at "ev"); (case c => walk_at "rv"))
  | (refine' ev_un ?a ?b; (case a => walk_at "ev"); (case b => exact ru_neg))
  | (refine' ev_isN ?a; (case a => walk_at "ev"))
  | (refine' ev_notN ?a; (case a => walk_at "ev"))
  | (refine' ev_orV1 (ev_is ?a ?b); (case a => walk_at "ev"); (case b => decide))
  | (refine' ev_andV0 (ev_is ?a ?b); (case a => walk_at "ev"); (case b => decide))
  | (refine' ev_andV ?a ?b; (case a => walk_at "ev"); (case b => intro _; walk_at "ev"))
  | (refine' ev_orV ?a ?b; (case a => walk_at "ev"); (case b => intro _; walk_at "ev"))
  | (refine' ev_notV ?a; (case a => walk_at "ev"))
  | (refine' ev_len ?a ?b; (case a => walk_at "ev"); (case b => walk_at "sq"))
  | (refine' ev_chain ?a ?b ?c ?d ?e; (case a => walk_at "ev"); (case b => walk_at "ev"); (case c => walk_at "rv"); (case d => intro _; walk_at "ev"); (case e => intro _; walk_at "rv")))
local macro_rules | `(tactic| walk_at "et") => `(tactic| first
  | (refine' et_test ?a; (case a => walk_at "ev"))
  | (refine' et_B ?a; (case a => walk_at "ev"))
  | (refine' et_not ?a; (case a => walk_at "et"))
  | (refine' et_or1 (et_is ?a ?b); (case a => walk_at "et"); (case b => decide))
  | (refine' et_and0 (et_is ?a ?b); (case a => walk_at "et"); (case b => decide))
  | (refine' et_and ?a ?b; (case a => walk_at "et"); (case b => intro _; walk_at "et"))
  | (refine' et_or ?a ?b; (case a => walk_at "et"); (case b => intro _; walk_at "et")))
section
variable {P : Program} {w : World} {K : PySem.W.Frag} {mg : Str → Option Value} {base : Heap}
def sp_is_item : Sp := fun vs H Q _ => ∃ i : It, vs = [itV i] ∧ RetV (.bl (decide (i ≠ .own))) H Q
theorem ok_is_item (T : Tx K mg) : FnOk P w K mg base CX0 2 T.a_is_item T.d_is_item ["value"] sp_is_item := by
  refine T.h_is_item.F.ok sc_is_item (fun vs H Q E h => ?_) (fun cdv A outer s H vs Q E hr h => ?_)
  · obtain ⟨i, rfl, _⟩ := h
    rfl
  · obtain ⟨i, rfl, k⟩ := h
    refine ⟨_, (pss_one (ps_ret (pe_or (pe_cmp (pc_isN (pv 0)) rfl) (pe_one (pe_call (ok_is_integer T) (hr.mono (by decide)) (by rfl) T.h_is_integer.g T.h_is_integer.kp T.h_is_integer.b1 T.h_is_integer.v1 pass0 (pa_cons (pv 0) pa_nil)))))), ?_⟩
    cases i with
    | miss => exact s_retV rfl (ev_is (ev_orV1 (ev_is (ev_isN (ev_var rfl)) (by rfl))) (by rfl)) k
    | own => exact s_retV rfl (ev_is (ev_orV (ev_isN (ev_var rfl)) fun _ => ev_call (ea_cons (ev_var rfl) ea_nil) (spv_int rfl)) (by rfl)) k
    | hit n => exact s_retV rfl (ev_is (ev_orV (ev_isN (ev_var rfl)) fun _ => ev_call (ea_cons (ev_var rfl) ea_nil) (spv_int rfl)) (by rfl)) k
theorem spv_item {H : Hp} {i : It} : SpV sp_is_item [itV i] H (.bl (decide (i ≠ .own))) := fun H1 e Q k _ => ⟨i, rfl, k⟩
def sp_most_others : Sp := fun vs H Q _ => ∃ (a : Addr) (its : List It), vs = [.ref a] ∧ H a = some (.lst (its.map itV)) ∧ RetV (nV (mo its).2) H Q
theorem own_test (i : It) : decide (itV i = V.str "own") = decide (i = .own) := by
  cases i <;> rfl
theorem scal_item (i : It) : scal (itV i) (.str "own") = true := by
  cases i <;> rfl
theorem ok_most_others (T : Tx K mg) : FnOk P w K mg base CX0 1 T.a_most_others T.d_most_others ["items"] sp_most_others := by
  refine T.h_most_others.F.ok sc_most_others (fun vs H Q E h => ?_) (fun cdv A outer s H vs Q E hr h => ?_)
  · obtain ⟨a, its, rfl, _⟩ := h
    rfl
  · obtain ⟨a, its, rfl, ha, k⟩ := h
    refine ⟨_, (pss_cons (ps_asg (pe_tup (pa_cons pe_int (pa_cons pe_int pa_nil))) (pg_tup rfl (pgs_cons (pg_name (i := 1) sc_most_others.nd rfl (.inl rfl)) (pgs_cons (pg_name (i := 2) sc_most_others.nd rfl (.inl rfl)) pgs_nil))))
      (pss_cons (ps_for PassesOwn.never rfl (pi_list (pv 0)) (pg_name (i := 3) sc_most_others.nd rfl (.inl rfl))
      (pss_cons (ps_set (i := 2) sc_most_others.nd rfl (.inl rfl) (pe_ifExp (pt_cmpR op_eq (pv 3) (pe_glob (v := .str "own") rfl T.g_OWN ⟨_, rfl⟩) (nomark _)) pe_int (pe_op op_add (pv 2) pe_int)))
      (pss_one (ps_set (i := 1) sc_most_others.nd rfl (.inl rfl) (pe_callB (call_max2 rfl) (by rfl) T.z_max (by decide +kernel) (pa_cons (pv 1) (pa_cons (pv 2) pa_nil)))))))
      (pss_one (ps_ret (pv 1))))), ?_⟩
    refine q_unp2 (eu_tup (ea_cons ev_c (ea_cons ev_c ea_nil)) len2) fun H1 e1 => ?_
    refine q_forP (ev_var rfl) (exu e1 ha) (fun i σ => ∃ y, σ = [some (.ref a), some (nV (mo (its.take i)).2), some (nV (mo (its.take i)).1), y]) ⟨none, rfl⟩ ?_ ?_
    · rintro N i x σ' H' hx ⟨y, rfl⟩ e2 hN
      have em : mo (its.take (i + 1)) = cnt (mo (its.take i)) x := by
        rw [take_snoc hx, mo_snoc]
      refine q_asg (ev_is (v := nV (cnt (mo (its.take i)) x).1) (ev_if (b := decide (x = .own)) (et_is (et_test (ev_op (ev_var rfl) ev_c (rv_eq (scal_item x)))) (own_test x)) (fun hb => ev_is ev_c ?_) fun hb => ev_is (ev_op (ev_var rfl) ev_c rv_I0) ?_) rfl) fun H3 e3 => ?_
      · have hb' := of_decide_eq_true hb
        unfold cnt
        rw [if_pos hb']
        rfl
      · have hb' := of_decide_eq_false hb
        unfold cnt
        rw [if_neg hb']
        rfl
      · refine s_asg (ev_is (v := nV (cnt (mo (its.take i)) x).2) (ev_is (ev_max2 (ev_var rfl) (ev_var rfl)) ?_) rfl) fun H4 e4 => ?_
        · unfold cnt
          by_cases c : x = .own
          · rw [if_pos c]
            show V.int (if ((0 : Nat) : Int) > (((mo (its.take i)).2 : Nat) : Int) then _ else _) = _
            rw [if_neg (by omega)]
          · rw [if_neg c]
            show V.int (if (((mo (its.take i)).1 + 1 : Nat) : Int) > (((mo (its.take i)).2 : Nat) : Int) then _ else _) = V.int ((max (mo (its.take i)).2 ((mo (its.take i)).1 + 1) : Nat) : Int)
            by_cases c2 : (mo (its.take i)).1 + 1 > (mo (its.take i)).2
            · rw [if_pos (by omega), Nat.max_eq_right (by omega)]
            · rw [if_neg (by omega), Nat.max_eq_left (by omega)]
        · refine hN _ _ ⟨some (itV x), ?_⟩ (e3.trans e4)
          rw [em]
          rfl
    · rintro σ' H' ⟨y, rfl⟩ e2
      rw [List.take_length]
      exact s_retV rfl (ev_var rfl) fun H3 e3 => k H3 ((e1.trans e2).trans e3)
theorem spv_most {H : Hp} {a : Addr} {its : List It} (ha : H a = some (.lst (its.map itV))) : SpV sp_most_others [.ref a] H (nV (mo its).2) := fun H1 e Q k _ => ⟨a, its, rfl, exu e ha, k⟩
/-! ### place_behind -/
def itK : It → Option Key
  | .hit n => some (kM n)
  | _ => none
theorem itK_V {i : It} (h : i ≠ .own) : itV i = kN (itK i) := by
  cases i with
  | own => exact absurd rfl h
  | miss => rfl
  | hit n => rfl
def mvK (p : Plan) (q : Nat) : List (Option Key × V) := (mv p q).map fun x => (itK x.1, oV x.2)
theorem merge_new : ∀ (more acc : List (Option Key × V)), (acc.map (·.1) ++ more.map (·.1)).Nodup → mergeN acc more = acc ++ more
  | [], acc, _ => by simp [mergeN]
  | x :: more, acc, h => by
    show mergeN (putK acc x.1 x.2) more = _
    have hn : valV acc x.1 = none := by
      have nx : x.1 ∉ acc.map (·.1) := fun z => by
        have := (List.nodup_append.mp h).2.2 x.1 z x.1 (by simp)
        exact this rfl
      clear h
      induction acc with
      | nil => rfl
      | cons y acc ih =>
        rw [List.map_cons, List.mem_cons, not_or] at nx
        rw [valV_neg (fun e => nx.1 e.symm)]
        exact ih nx.2
    rw [putK_new _ hn, merge_new more (acc ++ [(x.1, x.2)]) (by simpa using h), List.append_assoc]
    rfl
theorem valV_map {f : Nat → V} {n : Nat} : ∀ l : List Nat, valV (l.map fun h => ((some (kM h) : Option Key), f h)) (some (kM n)) = if n ∈ l then some (f n) else none
  | [] => rfl
  | x :: l => by
    rw [List.map_cons]
    by_cases c : x = n
    · subst c
      rw [valV_pos rfl, if_pos List.mem_cons_self]
    · rw [valV_neg (fun e => c (kM_inj (Option.some.inj e))), valV_map l]
      by_cases d : n ∈ l
      · rw [if_pos d, if_pos (List.mem_cons_of_mem _ d)]
      · rw [if_neg d, if_neg (fun z => (List.mem_cons.mp z).elim (fun z => c z.symm) d)]
theorem mvK_eq (p : Plan) (q : Nat) : mvK p q = (none, oV (if 0 < q then some (q - 1) else none)) :: ((List.range p.length).filter (fun h => decide (h ≠ q))).map fun h => ((some (kM h) : Option Key), oV (some (rg p h q))) := by
  unfold mvK mv
  rw [List.map_cons, List.map_map]
  rfl
theorem mvK_merge (p : Plan) (q : Nat) : mergeN [] (mvK p q) = mvK p q := by
  refine merge_new _ _ ?_
  rw [mvK_eq, List.map_nil, List.nil_append, List.map_cons, List.map_map, List.nodup_cons]
  refine ⟨fun z => ?_, ?_⟩
  · obtain ⟨x, _, e⟩ := List.mem_map.mp z
    cases e
  · unfold List.Nodup
    rw [List.pairwise_map]
    exact (nodup_filter _ List.nodup_range).imp fun h e => h (kM_inj (Option.some.inj e))
theorem mvK_get {p : Plan} {q : Nat} {i : It} (h : i ≠ .own) : valV (mvK p q) (itK i) = (look p q i).map oV := by
  rw [mvK_eq]
  cases i with
  | own => exact absurd rfl h
  | miss => exact valV_pos rfl
  | hit n =>
    rw [valV_neg (show ¬ (none : Option Key) = some (kM n) from fun e => nomatch e)]
    refine (valV_map (f := fun h => oV (some (rg p h q))) _).trans ?_
    show _ = Option.map oV (if n < p.length ∧ n ≠ q then some (some (rg p n q)) else none)
    by_cases c : n < p.length ∧ n ≠ q
    · rw [if_pos c, if_pos (List.mem_filter.mpr ⟨List.mem_range.mpr c.1, decide_eq_true c.2⟩)]
      rfl
    · rw [if_neg c, if_neg fun z => c ⟨List.mem_range.mp (List.mem_filter.mp z).1, of_decide_eq_true (List.mem_filter.mp z).2⟩]
      rfl
section
variable {σ : L2.St} {H : Hp} {ta tb te : TE} {v y : V}
theorem evp_dictN {p : Plan} {q : Nat} (h : EvP te σ H (MvP (mv p q))) : EvP (tCB (rDictN K P w) (tCons te tNil)) σ H (fun v H' => ∃ d, v = .ref d ∧ H' d = some (DictN P w d (mvK p q))) := fun H1 e Q k =>
  h H1 e _ fun v H2 e2 hv => by
    obtain ⟨l, rfl, as, hl, hp⟩ := hv
    refine ⟨l, as, mvK p q, rfl, sq_of hl, ?_, fun d nd => k _ _ (e2.trans (Ex.new nd)) ⟨d, rfl, by rw [mvK_merge]; exact upd_same⟩⟩
    have key : ∀ {as : List Addr} {xs : List (It × Option Nat)}, (∀ x ∈ xs, x.1 ≠ .own) → Paired (fun a o => H2 a = some o) as (xs.map mvO) → Paired (fun p kv => SqT K H2 p [kN kv.1, kv.2]) as (xs.map fun x => (itK x.1, oV x.2)) := by
      intro as xs
      induction xs generalizing as with
      | nil =>
        intro _ h
        cases h
        exact .nil
      | cons x xs ih =>
        intro hx h
        cases h with
        | cons r t =>
          refine .cons ?_ (ih (fun y hy => hx y (List.mem_cons_of_mem _ hy)) t)
          rw [← itK_V (hx x List.mem_cons_self)]
          exact st_of r
    exact key (fun x hx => (mem_mv (i := x.1) (t := x.2) hx).1) hp
theorem ev_nnotin {d : Addr} {kvs : List (Option Key × V)} {k : Option Key} (ha : Ev ta σ H (kN k)) (hb : Ev tb σ H (.ref d)) (hd : H d = some (DictN P w d kvs)) : Ev (tNNotIn P w ta tb) σ H (.bl (!(valV kvs k).isSome)) := fun H1 e Q q =>
  ha H1 e _ fun H2 e2 => hb H2 (e.trans e2) _ fun H3 e3 => ⟨d, kvs, k, rfl, rfl, exu ((e.trans e2).trans e3) hd, q H3 (e2.trans e3)⟩
theorem ev_nget {d : Addr} {kvs : List (Option Key × V)} {k : Option Key} (hb : Ev tb σ H (.ref d)) (ha : Ev ta σ H (kN k)) (hd : H d = some (DictN P w d kvs)) (hv : valV kvs k = some v) : Ev (tNGet P w tb ta) σ H v := fun H1 e Q q =>
  hb H1 e _ fun H2 e2 => ha H2 (e.trans e2) _ fun H3 e3 => ⟨d, kvs, k, v, rfl, rfl, exu ((e.trans e2).trans e3) hd, hv, q H3 (e2.trans e3)⟩
end
def pbV : Option (Option Nat) → V
  | none => .int (-1)
  | some h => oV h
theorem pbV_non (x : Option (Option Nat)) : decide (pbV x = V.non) = decide (x = some none) := by
  match x with
  | none => rfl
  | some none => rfl
  | some (some n) => rfl
def sp_place_behind : Sp := fun vs H Q _ => ∃ (r : Addr) (p : Plan) (q : Nat) (a : Addr) (its : List It), vs = [.ref r, nV q, .ref a] ∧ RuleAt H r p ∧ RuleOk p ∧ q < p.length ∧ H a = some (.lst (its.map itV)) ∧ RetV (pbV (pb p (some q) its)) H Q
theorem look_lt {p : Plan} (ok : RuleOk p) {q : Nat} (hq : q < p.length) {i : It} {x : Nat} (h : look p q i = some (some x)) : x < p.length := by
  cases i with
  | own =>
    injection h with h
    injection h with h
    rw [← h]
    exact ok.rg_lt hq hq
  | miss =>
    injection h with h
    by_cases c : 0 < q
    · rw [if_pos c] at h
      injection h with h
      omega
    · rw [if_neg c] at h
      cases h
  | hit n =>
    have h : (if n < p.length ∧ n ≠ q then some (some (rg p n q)) else none) = some (some x) := h
    by_cases c : n < p.length ∧ n ≠ q
    · rw [if_pos c] at h
      injection h with h
      injection h with h
      rw [← h]
      exact ok.rg_lt c.1 hq
    · rw [if_neg c] at h
      cases h
theorem ok_place_behind (T : Tx K mg) : FnOk P w K mg base CX0 2 T.a_place_behind T.d_place_behind ["rule", "place", "items"] sp_place_behind := by
  refine T.h_place_behind.F.ok sc_place_behind (fun vs H Q E h => ?_) (fun cdv A outer s H vs Q E hr h => ?_)
  · obtain ⟨r, p, q, a, its, rfl, _⟩ := h
    rfl
  · obtain ⟨r, p, q, a, its, rfl, hR, ok, hq, ha, k⟩ := h
    refine ⟨_, (pss_cons (ps_set (i := 3) sc_place_behind.nd rfl (.inl rfl) (pv 1))
      (pss_cons (ps_for PassesOwn.never rfl (pi_list (pv 2)) (pg_name (i := 4) sc_place_behind.nd rfl (.inl rfl))
      (pss_cons (ps_if (pt_cmp (pc_isN (pv 3)))
      (pss_one (ps_ret (pe_un un_neg pe_int)))
      pss_nil)
      (pss_one (ps_if (pt_cmpR op_eq (pv 4) (pe_glob (v := .str "own") rfl T.g_OWN ⟨_, rfl⟩) (nomark _))
      (pss_one (ps_set (i := 3) sc_place_behind.nd rfl (.inl rfl) (pe_ix (ix_listK (K := K) rfl) (pe_ix (ix_listK (K := K) rfl) (pv 0) (pv 3) (fun _ _ => rfl)) (pv 3) (fun _ _ => rfl))))
      (pss_cons (ps_set (i := 5) sc_place_behind.nd rfl (.inl rfl) (pe_callTy (call_dictN rfl) (by rfl) T.z_dict (by decide +kernel) (pa_cons (pe_call (ok_moves_at T) (hr.mono (by decide)) (by rfl) T.h_moves_at.g T.h_moves_at.kp T.h_moves_at.b .nil pass0 (pa_cons (pv 0) (pa_cons (pv 3) pa_nil))) pa_nil)))
      (pss_cons (ps_if (pt_cmp (pc_nnotin (pv 4) (pv 5)))
      (pss_one (ps_ret (pe_un un_neg pe_int)))
      pss_nil)
      (pss_one (ps_set (i := 3) sc_place_behind.nd rfl (.inl rfl) (pe_ngetN (pv 5) (pv 4) (fun _ _ => rfl))))))))))
      (pss_one (ps_ret (pv 3))))), ?_⟩
    refine q_asg (ev_var rfl) fun H1 e1 => ?_
    refine q_forP (ev_var rfl) (exu e1 ha) (fun i σ => ∃ h y4 y5, σ = [some (.ref r), some (nV q), some (.ref a), some (oV h), y4, y5] ∧ pb p (some q) its = pb p h (its.drop i) ∧ ∀ x, h = some x → x < p.length) ⟨some q, none, none, rfl, rfl, fun x e => by cases e; exact hq⟩ ?_ ?_
    · rintro N i x σ' H' hx ⟨h, y4, y5, rfl, hh, hlt⟩ e2 hN
      have edrop : its.drop i = x :: its.drop (i + 1) := (List.drop_eq_getElem_cons (List.getElem?_eq_some_iff.mp hx).1).trans (by rw [(List.getElem?_eq_some_iff.mp hx).2])
      rw [edrop] at hh
      have e12 := e1.trans e2
      cases h with
      | none =>
        refine q_when (b := true) (et_is (et_B (ev_isN (ev_var rfl))) (by rfl)) (fun _ H3 e3 => ?_) fun z => Bool.noConfusion z
        refine s_retV rfl (ev_un ev_c ru_neg) fun H4 e4 => ?_
        have := k H4 ((e12.trans e3).trans e4)
        rw [hh] at this
        exact this
      | some q' =>
        have hq' := hlt q' rfl
        refine q_ifno (et_is (et_B (ev_isN (ev_var rfl))) (by rfl)) fun H3 e3 => ?_
        refine s_if (b := decide (x = .own)) (et_is (et_test (ev_op (ev_var rfl) ev_c (rv_eq (scal_item x)))) (own_test x)) (fun hb H4 e4 => ?_) fun hb H4 e4 => ?_
        · have hb' := of_decide_eq_true hb
          subst hb'
          refine s_asg (ev_rule ok (hR.mono ((e12.trans e3).trans e4)) (ev_var rfl) (ev_var rfl) (ev_var rfl) hq' hq') fun H5 e5 => ?_
          exact hN _ _ ⟨some (rg p q' q'), _, _, rfl, hh, fun x e => by cases e; exact ok.rg_lt hq' hq'⟩ ((e3.trans e4).trans e5)
        · have hb' : x ≠ .own := of_decide_eq_false hb
          refine q_asgP (evp_dictN (evp_call (ea_cons (ev_var rfl) (ea_cons (ev_var rfl) ea_nil)) (spp_moves (hR.mono ((e12.trans e3).trans e4)) ok hq'))) fun v H5 e5 hv => ?_
          obtain ⟨d, rfl, hd⟩ := hv
          have hg := mvK_get (p := p) (q := q') hb'
          have hst : pb p (some q') (x :: its.drop (i + 1)) = (match look p q' x with | none => none | some h => pb p h (its.drop (i + 1))) := rfl
          rw [hst] at hh
          cases hl : look p q' x with
          | none =>
            rw [hl] at hg hh
            refine q_when (b := true) (et_is (et_B (ev_nnotin (ev_is (ev_var rfl) (itK_V hb')) (ev_var rfl) hd)) (by rw [hg]; rfl)) (fun _ H6 e6 => ?_) fun z => Bool.noConfusion z
            refine s_retV rfl (ev_un ev_c ru_neg) fun H7 e7 => ?_
            have := k H7 ((((e12.trans e3).trans e4).trans e5).trans (e6.trans e7))
            rw [hh] at this
            exact this
          | some h' =>
            rw [hl] at hg hh
            refine q_ifno (et_is (et_B (ev_nnotin (ev_is (ev_var rfl) (itK_V hb')) (ev_var rfl) hd)) (by rw [hg]; rfl)) fun H6 e6 => ?_
            refine s_asg (ev_nget (ev_var rfl) (ev_is (ev_var rfl) (itK_V hb')) (exu e6 hd) hg) fun H7 e7 => ?_
            exact hN _ _ ⟨h', _, _, rfl, hh, fun x e => look_lt ok hq' (by rw [hl, e])⟩ (((e3.trans e4).trans e5).trans (e6.trans e7))
    · rintro σ' H' ⟨h, y4, y5, rfl, hh, hlt⟩ e2
      rw [List.drop_length] at hh
      refine s_retV rfl (ev_var rfl) fun H3 e3 => ?_
      have := k H3 ((e1.trans e2).trans e3)
      rw [hh] at this
      exact this
theorem spv_behind {H : Hp} {r a : Addr} {p : Plan} {q : Nat} {its : List It} (hR : RuleAt H r p) (ok : RuleOk p) (hq : q < p.length) (ha : H a = some (.lst (its.map itV))) : SpV sp_place_behind [.ref r, nV q, .ref a] H (pbV (pb p (some q) its)) :=
  fun H1 e Q k _ => ⟨r, p, q, a, its, rfl, hR.mono e, ok, hq, exu e ha, k⟩
end
end K78

/-! K78w9: greatest_gap, life, way_out, keeps, lost_way, is_way_out, is_lost_way. -/
namespace K78
open PySem PySem.Spec PyProof.Rows L2 Evl
local macro_rules | `(tactic| walk_at "sq") => `(tactic| first | exact sq_of (by assumption) | assumption)
local macro_rules | `(tactic| walk_at "at") => `(tactic| first | exact atI_nat (by assumption) | assumption)
local macro_rules | `(tactic| walk_at "side") => `(tactic| first | assumption | exact ⟨by decide, by decide⟩ | decide | omega)
local macro_rules | `(tactic| walk_at "rv") => `(tactic| first
  | exact rv_I0
  | exact rv_eq rfl
  | exact rv_ne rfl
  | (refine' rv_ixL ?h ?a; (case h => walk_at "sq"); (case a => walk_at "at"))
  | (refine' rv_I ?c; (case c => walk_at "side")))
local macro_rules | `(tactic| walk_at "ev") => `(tactic| first
  | exact ev_var rfl
  | exact ev_c
  | (refine' ev_isi ?a ?b (.ty _) ?c ?d; (case a => walk_at "ev"); (case b => walk_at "ev"); (case c => first | exact ty_int | exact ty_str | exact ty_lst (by assumption)); (case d => first | exact kit_ty k_ii | exact kit_ty k_ib | exact kit_ty k_si | exact kit_ty k_ll | exact kit_ty k_ss))
  | (refine' ev_op ?a ?b ?c; (case a => walk_at "ev"); (case b => walk_at "ev"); (case c => walk_at "rv"))
  | (refine' ev_un ?a ?b; (case a => walk_at "ev"); (case b => exact ru_neg))
  | (refine' ev_isN ?a; (case a => walk_at "ev"))
  | (refine' ev_notN ?a; (case a => walk_at "ev"))
  | (refine' ev_orV1 (ev_is ?a ?b); (case a => walk_at "ev"); (case b => decide))
  | (refine' ev_andV0 (ev_is ?a ?b); (case a => walk_at "ev"); (case b => decide))
  | (refine' ev_andV ?a ?b; (case a => walk_at "ev"); (case b => intro _; walk_at "ev"))
  | (refine' ev_orV ?a ?b; (case a => walk_at "ev"); (case b => intro _; walk_at "ev"))
  | (refine' ev_notV ?a; (case a => walk_at "ev"))
  | (refine' ev_len ?a ?b; (case a => walk_at "ev"); (case b => walk_at "sq"))
  | (refine' ev_chain ?a ?b ?c ?d ?e; (case a => walk_at "ev"); (case b => walk_at "ev"); (case c => walk_at "rv"); (case d => intro _; walk_at "ev"); (case e => intro _; walk_at "rv")))
local macro_rules | `(tactic| walk_at "et") => `(tactic| first
  | (refine' et_test ?a; (case a => walk_at "ev"))
  | (refine' et_B ?a; (case a => walk_at "ev"))
  | (refine' et_not ?a; (case a => walk_at "et"))
  | (refine' et_or1 (et_is ?a ?b); (case a => walk_at "et"); (case b => decide))
  | (refine' et_and0 (et_is ?a ?b); (case a => walk_at "et"); (case b => decide))
  | (refine' et_and ?a ?b; (case a => walk_at "et"); (case b => intro _; walk_at "et"))
  | (refine' et_or ?a ?b; (case a => walk_at "et"); (case b => intro _; walk_at "et")))
section
variable {P : Program} {w : World} {K : PySem.W.Frag} {mg : Str → Option Value} {base : Heap}
theorem best_ex {p : Plan} (ok : RuleOk p) : ∃ b, Best p b := by
  have key : ∀ n, LostG p n → ∃ b, Best p b := by
    intro n
    induction n with
    | zero => exact fun h => absurd h not_lost_0
    | succ n ih =>
      intro h
      by_cases c : LostG p n
      · exact ih c
      · exact ⟨n, c, h⟩
  exact key _ (lost_len ok)
theorem isD_ex {p : Plan} (ok : RuleOk p) {q : Nat} (hq : q < p.length) : ∃ t, IsD p q t := by
  have key : ∀ n, (∃ s, s < n ∧ 0 ∈ (layK p q s).1) → ∃ t, IsD p q t := by
    intro n
    induction n with
    | zero => exact fun ⟨s, h, _⟩ => absurd h (Nat.not_lt_zero s)
    | succ n ih =>
      rintro ⟨s, h, hs⟩
      by_cases c : ∃ s, s < n ∧ 0 ∈ (layK p q s).1
      · exact ih c
      · refine ⟨n, ?_, fun u hu z => c ⟨u, hu, z⟩⟩
        by_cases e : s = n
        · rw [← e]
          exact hs
        · exact absurd ⟨s, by omega, hs⟩ c
  by_cases c : ∃ s, s < q + 1 ∧ 0 ∈ (layK p q s).1
  · exact key _ c
  · have := layK_le ok hq (t := q + 1) fun s hs z => c ⟨s, hs, z⟩
    omega
section
variable {σ : L2.St} {H : Hp} {te : TE}
theorem et_isNP {Po : V → Hp → Prop} (h : EvP te σ H Po) (k : ∀ v H', Po v H' → ∃ a, v = .ref a) : EvT (tB (tIsN te)) σ H false := fun H1 e Q q => h H1 e _ fun v H2 e2 hv => by
  obtain ⟨a, rfl⟩ := k v H2 hv
  exact ⟨false, rfl, q H2 e2⟩
theorem ev_lenP {Po : V → Hp → Prop} {n : Nat} (h : EvP te σ H Po) (k : ∀ v H', Po v H' → ∃ a xs, v = .ref a ∧ H' a = some (.lst xs) ∧ xs.length = n) : Ev (tCB (rLenS K) (tCons te tNil)) σ H (nV n) := fun H1 e Q q => h H1 e _ fun v H2 e2 hv => by
  obtain ⟨a, xs, rfl, h1, h2⟩ := k v H2 hv
  refine ⟨a, xs, rfl, .inl (sq_of h1), ?_⟩
  rw [h2]
  exact q H2 e2
end
theorem spv_lost0 {H : Hp} {r : Addr} {p : Plan} {g : Nat} (hR : RuleAt H r p) (ok : RuleOk p) (hg : g ≤ 100) (n : ¬ LostG p g) : SpV sp_shortest_lost [.ref r, nV g] H .non := fun H1 e Q k _ => ⟨r, p, g, rfl, hR.mono e, ok, hg, fun _ => k, fun h => absurd h n⟩
theorem spp_lost {H : Hp} {r : Addr} {p : Plan} {g : Nat} (hR : RuleAt H r p) (ok : RuleOk p) (hg : g ≤ 100) (n : LostG p g) : SpP sp_shortest_lost [.ref r, nV g] H (LostP p g) := fun H1 e Q k _ => ⟨r, p, g, rfl, hR.mono e, ok, hg, fun h => absurd n h, fun _ => k⟩
def sp_greatest_gap : Sp := fun vs H Q _ => ∃ (r : Addr) (p : Plan) (b : Nat), vs = [.ref r] ∧ RuleAt H r p ∧ RuleOk p ∧ Best p b ∧ RetV (nV b) H Q
theorem ok_greatest_gap (T : Tx K mg) : FnOk P w K mg base CX0 3 T.a_greatest_gap T.d_greatest_gap ["rule"] sp_greatest_gap := by
  refine T.h_greatest_gap.F.ok sc_greatest_gap (fun vs H Q E h => ?_) (fun cdv A outer s H vs Q E hr h => ?_)
  · obtain ⟨r, p, b, rfl, _⟩ := h
    rfl
  · obtain ⟨r, p, b, rfl, hR, ok, B, k⟩ := h
    have h5 := ok.hi
    have hb := B.lt ok
    refine ⟨_, (pss_cons (ps_set (i := 1) sc_greatest_gap.nd rfl (.inl rfl) pe_int)
      (pss_cons (ps_while PassesOwn.never (pt_cmp (pc_isN (pe_call (ok_shortest_lost T) (hr.mono (by decide)) (by rfl) T.h_shortest_lost.g T.h_shortest_lost.kp T.h_shortest_lost.b .nil pass0 (pa_cons (pv 0) (pa_cons (pe_op op_add (pv 1) pe_int) pa_nil)))))
      (pss_one (ps_aug (i := 1) sc_greatest_gap.nd rfl (.inl rfl) pe_int ip_add)))
      (pss_one (ps_ret (pv 1))))), ?_⟩
    refine q_asg ev_c fun H1 e1 => ?_
    refine q_while (fun m σ' H' => ∃ f : Nat, m + f = b ∧ σ' = [some (.ref r), some (nV f)] ∧ Ex H H') b ⟨0, rfl, rfl, e1⟩ ?_
    rintro m σ' H0 ⟨f, hm, rfl, e0⟩
    have hA : EvA (tCons (tVar 0) (tCons (tOp (rI0 fun i j => .int (i + j)) (tVar 1) (tC (.int 1))) tNil)) [some (.ref r), some (nV f)] H0 [.ref r, nV (f + 1)] := ea_cons (ev_var rfl) (ea_cons (ev_is (ev_op (ev_var rfl) ev_c rv_I0) rfl) ea_nil)
    by_cases c : f < b
    · refine ⟨true, et_is (et_B (ev_isN (ev_call hA (spv_lost0 (hR.mono e0) ok (by omega) fun z => ?_)))) (by rfl), fun _ H2 e2 => ⟨_, fun σ2 H3 h => h, ?_⟩, fun z => Bool.noConfusion z⟩
      · have := B.iff.mp z
        omega
      · refine s_aug rfl ev_c fun H3 e3 => ?_
        exact ⟨m - 1, by omega, f + 1, by omega, rfl, (e0.trans e2).trans e3⟩
    · have ef : f = b := by omega
      subst ef
      refine ⟨false, et_isNP (evp_call hA (spp_lost (hR.mono e0) ok (by omega) B.yes)) (fun v H' hv => ?_), (fun z => Bool.noConfusion z), fun _ H2 e2 => ?_⟩
      · obtain ⟨a, _, e, _⟩ := hv
        exact ⟨a, e⟩
      · exact s_retV rfl (ev_var rfl) fun H3 e3 => k H3 ((e0.trans e2).trans e3)
def sp_life : Sp := fun vs H Q _ => ∃ (r : Addr) (p : Plan) (q t : Nat), vs = [.ref r, nV q] ∧ RuleAt H r p ∧ RuleOk p ∧ q < p.length ∧ IsD p q t ∧ RetV (nV (t + 1)) H Q
theorem ok_life (T : Tx K mg) : FnOk P w K mg base CX0 4 T.a_life T.d_life ["rule", "place"] sp_life := by
  refine T.h_life.F.ok sc_life (fun vs H Q E h => ?_) (fun cdv A outer s H vs Q E hr h => ?_)
  · obtain ⟨r, p, q, t, rfl, _⟩ := h
    rfl
  · obtain ⟨r, p, q, t, rfl, hR, ok, hq, ht, k⟩ := h
    refine ⟨_, (pss_cons (ps_expr (pe_call (ok_check_rule T) (hr.mono (by decide)) (by rfl) T.h_check_rule.g T.h_check_rule.kp T.h_check_rule.b .nil pass0 (pa_cons (pv 0) pa_nil)))
      (pss_cons (ps_expr (pe_call (ok_check_place T) (hr.mono (by decide)) (by rfl) T.h_check_place.g T.h_check_place.kp T.h_check_place.b .nil pass0 (pa_cons (pv 0) (pa_cons (pv 1) pa_nil))))
      (pss_one (ps_ret (pe_callB (call_len_seqK (K := K) rfl) (by rfl) T.z_len PySem.boot_len (pa_cons (pe_call (ok_shortest_out T) (hr.mono (by decide)) (by rfl) T.h_shortest_out.g T.h_shortest_out.kp T.h_shortest_out.b .nil pass0 (pa_cons (pv 0) (pa_cons (pv 1) pa_nil))) pa_nil)))))), ?_⟩
    refine q_call (ea_cons (ev_var rfl) ea_nil) (spv_check hR ok) fun H1 e1 => ?_
    refine q_call (ea_cons (ev_var rfl) (ea_cons (ev_var rfl) ea_nil)) (spv_place (hR.mono e1) ok hq) fun H2 e2 => ?_
    refine s_retV rfl (ev_lenP (evp_call (ea_cons (ev_var rfl) (ea_cons (ev_var rfl) ea_nil)) (spp_out (hR.mono (e1.trans e2)) ok hq)) fun v H' hv => ?_) fun H3 e3 => k H3 ((e1.trans e2).trans e3)
    obtain ⟨a, its, rfl, ha, o⟩ := hv
    obtain ⟨t', h1, h2⟩ := o.len
    refine ⟨a, _, rfl, ha, ?_⟩
    rw [List.length_map, h2, h1.uniq ht]
def sp_way_out : Sp := fun vs H Q _ => ∃ (r : Addr) (p : Plan) (q : Nat), vs = [.ref r, nV q] ∧ RuleAt H r p ∧ RuleOk p ∧ q < p.length ∧ RetP (OutP p q) H Q
theorem ok_way_out (T : Tx K mg) : FnOk P w K mg base CX0 4 T.a_way_out T.d_way_out ["rule", "place"] sp_way_out := by
  refine T.h_way_out.F.ok sc_way_out (fun vs H Q E h => ?_) (fun cdv A outer s H vs Q E hr h => ?_)
  · obtain ⟨r, p, q, rfl, _⟩ := h
    rfl
  · obtain ⟨r, p, q, rfl, hR, ok, hq, k⟩ := h
    refine ⟨_, (pss_cons (ps_expr (pe_call (ok_check_rule T) (hr.mono (by decide)) (by rfl) T.h_check_rule.g T.h_check_rule.kp T.h_check_rule.b .nil pass0 (pa_cons (pv 0) pa_nil)))
      (pss_cons (ps_expr (pe_call (ok_check_place T) (hr.mono (by decide)) (by rfl) T.h_check_place.g T.h_check_place.kp T.h_check_place.b .nil pass0 (pa_cons (pv 0) (pa_cons (pv 1) pa_nil))))
      (pss_one (ps_ret (pe_call (ok_shortest_out T) (hr.mono (by decide)) (by rfl) T.h_shortest_out.g T.h_shortest_out.kp T.h_shortest_out.b .nil pass0 (pa_cons (pv 0) (pa_cons (pv 1) pa_nil))))))), ?_⟩
    refine q_call (ea_cons (ev_var rfl) ea_nil) (spv_check hR ok) fun H1 e1 => ?_
    refine q_call (ea_cons (ev_var rfl) (ea_cons (ev_var rfl) ea_nil)) (spv_place (hR.mono e1) ok hq) fun H2 e2 => ?_
    exact s_retP rfl (evp_call (ea_cons (ev_var rfl) (ea_cons (ev_var rfl) ea_nil)) (spp_out (hR.mono (e1.trans e2)) ok hq)) fun v H3 e3 hv => k v H3 ((e1.trans e2).trans e3) hv
def sp_keeps : Sp := fun vs H Q _ => ∃ (r : Addr) (p : Plan) (b : Nat), vs = [.ref r] ∧ RuleAt H r p ∧ RuleOk p ∧ Best p b ∧ RetV (nV b) H Q
theorem ok_keeps (T : Tx K mg) : FnOk P w K mg base CX0 4 T.a_keeps T.d_keeps ["rule"] sp_keeps := by
  refine T.h_keeps.F.ok sc_keeps (fun vs H Q E h => ?_) (fun cdv A outer s H vs Q E hr h => ?_)
  · obtain ⟨r, p, b, rfl, _⟩ := h
    rfl
  · obtain ⟨r, p, b, rfl, hR, ok, B, k⟩ := h
    refine ⟨_, (pss_cons (ps_expr (pe_call (ok_check_rule T) (hr.mono (by decide)) (by rfl) T.h_check_rule.g T.h_check_rule.kp T.h_check_rule.b .nil pass0 (pa_cons (pv 0) pa_nil)))
      (pss_one (ps_ret (pe_call (ok_greatest_gap T) (hr.mono (by decide)) (by rfl) T.h_greatest_gap.g T.h_greatest_gap.kp T.h_greatest_gap.b .nil pass0 (pa_cons (pv 0) pa_nil))))), ?_⟩
    refine q_call (ea_cons (ev_var rfl) ea_nil) (spv_check hR ok) fun H1 e1 => ?_
    exact s_retV rfl (ev_call (ea_cons (ev_var rfl) ea_nil) fun H2 e2 Q2 k2 _ => ⟨r, p, b, rfl, hR.mono (e1.trans e2), ok, B, k2⟩) fun H2 e2 => k H2 (e1.trans e2)
def sp_lost_way : Sp := fun vs H Q _ => ∃ (r : Addr) (p : Plan) (g : Nat), vs = [.ref r, nV g] ∧ RuleAt H r p ∧ RuleOk p ∧ g ≤ 100 ∧ (¬ LostG p g → RetV .non H Q) ∧ (LostG p g → RetP (LostP p g) H Q)
theorem ok_lost_way (T : Tx K mg) : FnOk P w K mg base CX0 4 T.a_lost_way T.d_lost_way ["rule", "gap"] sp_lost_way := by
  refine T.h_lost_way.F.ok sc_lost_way (fun vs H Q E h => ?_) (fun cdv A outer s H vs Q E hr h => ?_)
  · obtain ⟨r, p, g, rfl, _⟩ := h
    rfl
  · obtain ⟨r, p, g, rfl, hR, ok, hg, k⟩ := h
    refine ⟨_, (pss_cons (ps_expr (pe_call (ok_check_rule T) (hr.mono (by decide)) (by rfl) T.h_check_rule.g T.h_check_rule.kp T.h_check_rule.b .nil pass0 (pa_cons (pv 0) pa_nil)))
      (pss_cons (ps_expr (pe_call (ok_check_gap T) (hr.mono (by decide)) (by rfl) T.h_check_gap.g T.h_check_gap.kp T.h_check_gap.b .nil pass0 (pa_cons (pv 1) pa_nil)))
      (pss_one (ps_ret (pe_call (ok_shortest_lost T) (hr.mono (by decide)) (by rfl) T.h_shortest_lost.g T.h_shortest_lost.kp T.h_shortest_lost.b .nil pass0 (pa_cons (pv 0) (pa_cons (pv 1) pa_nil))))))), ?_⟩
    refine q_call (ea_cons (ev_var rfl) ea_nil) (spv_check hR ok) fun H1 e1 => ?_
    refine q_call (ea_cons (ev_var rfl) ea_nil) (spv_gap hg) fun H2 e2 => ?_
    have e12 := e1.trans e2
    by_cases c : LostG p g
    · exact s_retP rfl (evp_call (ea_cons (ev_var rfl) (ea_cons (ev_var rfl) ea_nil)) (spp_lost (hR.mono e12) ok hg c)) fun v H3 e3 hv => k.2 c v H3 (e12.trans e3) hv
    · exact s_retV rfl (ev_call (ea_cons (ev_var rfl) (ea_cons (ev_var rfl) ea_nil)) (spv_lost0 (hR.mono e12) ok hg c)) fun H3 e3 => k.1 c H3 (e12.trans e3)
def sp_is_way_out : Sp := fun vs H Q _ => ∃ (r : Addr) (p : Plan) (q : Nat) (a : Addr) (its : List It), vs = [.ref r, nV q, .ref a] ∧ RuleAt H r p ∧ RuleOk p ∧ q < p.length ∧ H a = some (.lst (its.map itV)) ∧ its.length ≤ 1000 ∧ RetV (.bl (noOwn its && decide (pb p (some q) its = some none))) H Q
theorem bools_map {its : List It} (f : It → Bool) : ((its.filter fun _ => true).map fun i => V.bl (f i)) = (its.map f).map V.bl := by
  rw [List.filter_eq_self.mpr (fun _ _ => rfl), List.map_map]
  rfl
theorem all_map {its : List It} (f : It → Bool) : (its.map f).all id = its.all f := by
  induction its with
  | nil => rfl
  | cons i its ih =>
    rw [List.map_cons, List.all_cons, List.all_cons, ih]
    rfl
theorem ok_is_way_out (T : Tx K mg) : FnOk P w K mg base CX0 4 T.a_is_way_out T.d_is_way_out ["rule", "place", "value"] sp_is_way_out := by
  refine T.h_is_way_out.F.ok sc_is_way_out (fun vs H Q E h => ?_) (fun cdv A outer s H vs Q E hr h => ?_)
  · obtain ⟨r, p, q, a, its, rfl, _⟩ := h
    rfl
  · obtain ⟨r, p, q, a, its, rfl, hR, ok, hq, ha, hz, k⟩ := h
    refine ⟨_, (pss_cons (ps_expr (pe_call (ok_check_rule T) (hr.mono (by decide)) (by rfl) T.h_check_rule.g T.h_check_rule.kp T.h_check_rule.b .nil pass0 (pa_cons (pv 0) pa_nil)))
      (pss_cons (ps_expr (pe_call (ok_check_place T) (hr.mono (by decide)) (by rfl) T.h_check_place.g T.h_check_place.kp T.h_check_place.b .nil pass0 (pa_cons (pv 0) (pa_cons (pv 1) pa_nil))))
      (pss_cons (ps_if (PW.pt (pw_or (pt_not (pt_val (pe_callB (call_isiKK (K := K) rfl) (by rfl) T.z_isinstance (by decide +kernel) (pa_cons (pv 2) (pa_cons (pe_bltn (v := .ty "list") (by rfl) T.z_list (by decide +kernel) rfl) pa_nil))))) (pw_or1 (pt_not (pt_val (pe_callB (cr_all rfl) (by rfl) T.z_all (by decide +kernel) (pa_cons (pe_lc (own := [("item", 3)]) (g := gName 3) (tt := tYes) rfl sc_is_way_out.nd (pi_list (pv 2)) (blkOk_by (own := [("item", 3)]) (N := ["rule", "place", "value", "item"]) (sc := defScope s_is_way_out) (by decide +kernel)) (fun _ _ _ _ _ => pg_name (i := 3) sc_is_way_out.nd rfl (.inl rfl)) (fun _ _ _ _ _ => pts_nil) (fun _ _ _ _ _ => (pe_call (ok_is_item T) (hr.mono (by decide)) (by rfl) T.h_is_item.g T.h_is_item.kp T.h_is_item.b .nil pass0 (pa_cons (pv 3) pa_nil)))) pa_nil)))))))
      (pss_one (ps_ret pe_bl))
      pss_nil)
      (pss_one (ps_ret (pe_cmp (pc_isN (pe_call (ok_place_behind T) (hr.mono (by decide)) (by rfl) T.h_place_behind.g T.h_place_behind.kp T.h_place_behind.b .nil pass0 (pa_cons (pv 0) (pa_cons (pv 1) (pa_cons (pv 2) pa_nil))))) rfl)))))), ?_⟩
    refine q_call (ea_cons (ev_var rfl) ea_nil) (spv_check hR ok) fun H1 e1 => ?_
    refine q_call (ea_cons (ev_var rfl) (ea_cons (ev_var rfl) ea_nil)) (spv_place (hR.mono e1) ok hq) fun H2 e2 => ?_
    have e12 := e1.trans e2
    have ha2 := exu e12 ha
    refine q_when (b := !noOwn its) (et_is (et_or (b := !noOwn its) (et_not (et_B (by walk_at "ev"))) fun _ => et_is (et_not (et_B (ev_allN (bs := its.map fun i => decide (i ≠ .own)) (el_is (el_lcF itV (fun i => .bl (decide (i ≠ .own))) (fun _ => true) (ev_var rfl) ha2 (by omega) (fun _ => rfl) (fun _ _ _ _ => et_yes) fun x hx H3 e3 _ => ev_call (ea_cons (ev_var rfl) ea_nil) spv_item) (bools_map _))))) ?_) (by rfl)) (fun hb H3 e3 => ?_) fun hb H3 e3 => ?_
    · rw [all_map]
      rfl
    · have hn : noOwn its = false := by simpa using hb
      rw [hn] at k
      exact s_retV rfl ev_c fun H4 e4 => k H4 ((e12.trans e3).trans e4)
    · have hn : noOwn its = true := by simpa using hb
      rw [hn] at k
      refine s_retV rfl (ev_is (ev_isN (ev_call (ea_cons (ev_var rfl) (ea_cons (ev_var rfl) (ea_cons (ev_var rfl) ea_nil))) (spv_behind (hR.mono (e12.trans e3)) ok hq (exu e3 ha2)))) ?_) fun H4 e4 => k H4 ((e12.trans e3).trans e4)
      rw [pbV_non]
      rfl
def sp_is_lost_way : Sp := fun vs H Q _ => ∃ (r : Addr) (p : Plan) (g : Nat) (a : Addr) (its : List It), vs = [.ref r, nV g, .ref a] ∧ RuleAt H r p ∧ RuleOk p ∧ g ≤ 100 ∧ H a = some (.lst (its.map itV)) ∧ its.length ≤ 1000 ∧
  RetV (.bl (decide (pb p (some (p.length - 1)) its = some none) && decide ((mo its).2 ≤ g))) H Q
theorem ok_is_lost_way (T : Tx K mg) : FnOk P w K mg base CX0 4 T.a_is_lost_way T.d_is_lost_way ["rule", "gap", "value"] sp_is_lost_way := by
  refine T.h_is_lost_way.F.ok sc_is_lost_way (fun vs H Q E h => ?_) (fun cdv A outer s H vs Q E hr h => ?_)
  · obtain ⟨r, p, g, a, its, rfl, _⟩ := h
    rfl
  · obtain ⟨r, p, g, a, its, rfl, hR, ok, hg, ha, hz, k⟩ := h
    have h2 := ok.lo
    refine ⟨_, (pss_cons (ps_expr (pe_call (ok_check_rule T) (hr.mono (by decide)) (by rfl) T.h_check_rule.g T.h_check_rule.kp T.h_check_rule.b .nil pass0 (pa_cons (pv 0) pa_nil)))
      (pss_cons (ps_expr (pe_call (ok_check_gap T) (hr.mono (by decide)) (by rfl) T.h_check_gap.g T.h_check_gap.kp T.h_check_gap.b .nil pass0 (pa_cons (pv 1) pa_nil)))
      (pss_cons (ps_if (pt_not (pt_val (pe_callB (call_isiKK (K := K) rfl) (by rfl) T.z_isinstance (by decide +kernel) (pa_cons (pv 2) (pa_cons (pe_bltn (v := .ty "list") (by rfl) T.z_list (by decide +kernel) rfl) pa_nil)))))
      (pss_one (ps_ret pe_bl))
      pss_nil)
      (pss_cons (ps_if (pt_not (pt_val (pe_callB (cr_all rfl) (by rfl) T.z_all (by decide +kernel) (pa_cons (pe_lc (own := [("item", 3)]) (g := gName 3) (tt := tYes) rfl sc_is_lost_way.nd (pi_list (pv 2)) (blkOk_by (own := [("item", 3)]) (N := ["rule", "gap", "value", "item"]) (sc := defScope s_is_lost_way) (by decide +kernel)) (fun _ _ _ _ _ => pg_name (i := 3) sc_is_lost_way.nd rfl (.inl rfl)) (fun _ _ _ _ _ => pts_nil) (fun _ _ _ _ _ => (pe_or (pe_call (ok_is_item T) (hr.mono (by decide)) (by rfl) T.h_is_item.g T.h_is_item.kp T.h_is_item.b .nil pass0 (pa_cons (pv 3) pa_nil)) (pe_one (pe_and (pe_callB (call_isiKK (K := K) rfl) (by rfl) T.z_isinstance (by decide +kernel) (pa_cons (pv 3) (pa_cons (pe_bltn (v := .ty "str") (by rfl) T.z_str (by decide +kernel) rfl) pa_nil))) (pe_one (pe_cmpR op_eq (pv 3) (pe_glob (v := .str "own") rfl T.g_OWN ⟨_, rfl⟩) (nomark _)))))))) pa_nil))))
      (pss_one (ps_ret pe_bl))
      pss_nil)
      (pss_one (ps_ret (pe_and (pe_cmp (pc_isN (pe_call (ok_place_behind T) (hr.mono (by decide)) (by rfl) T.h_place_behind.g T.h_place_behind.kp T.h_place_behind.b .nil pass0 (pa_cons (pv 0) (pa_cons (pe_op op_sub (pe_callB (call_len_seqK (K := K) rfl) (by rfl) T.z_len PySem.boot_len (pa_cons (pv 0) pa_nil)) pe_int) (pa_cons (pv 2) pa_nil))))) rfl) (pe_one (pe_cmpR op_le (pe_call (ok_most_others T) (hr.mono (by decide)) (by rfl) T.h_most_others.g T.h_most_others.kp T.h_most_others.b .nil pass0 (pa_cons (pv 2) pa_nil)) (pv 1) (nomark _)))))))))), ?_⟩
    refine q_call (ea_cons (ev_var rfl) ea_nil) (spv_check hR ok) fun H1 e1 => ?_
    refine q_call (ea_cons (ev_var rfl) ea_nil) (spv_gap hg) fun H2 e2 => ?_
    have e12 := e1.trans e2
    have ha2 := exu e12 ha
    refine q_ifno (et_is (et_not (et_B (by walk_at "ev"))) (by rfl)) fun H3 e3 => ?_
    have ha3 := exu e3 ha2
    refine q_ifno (et_is (et_not (et_B (ev_allN (bs := its.map fun i => true) (el_is (el_lcF itV (fun i => .bl true) (fun _ => true) (ev_var rfl) ha3 (by omega) (fun _ => rfl) (fun _ _ _ _ => et_yes) fun x hx H4 e4 _ => ?_) (bools_map _))))) ?_) fun H4 e4 => ?_
    · cases x with
      | miss => exact ev_is (ev_orV1 (ev_is (ev_call (ea_cons (ev_var rfl) ea_nil) spv_item) (by rfl))) (by rfl)
      | hit n => exact ev_is (ev_orV1 (ev_is (ev_call (ea_cons (ev_var rfl) ea_nil) spv_item) (by rfl))) (by rfl)
      | own => exact ev_is (ev_orV (ev_is (v := .bl (decide (It.own ≠ .own))) (ev_call (ea_cons (ev_var rfl) ea_nil) (spv_item (i := .own))) rfl) fun _ => ev_andV (b := true) (by walk_at "ev") fun _ => ev_is (ev_op (ev_var rfl) ev_c (rv_eq (by rfl))) (by rfl)) (by rfl)
    · rw [all_map]
      simp
    · have e14 := (e12.trans e3).trans e4
      have hA : Ev (tOp (rI0 fun i j => .int (i - j)) (tCB (rLenS K) (tCons (tVar 0) tNil)) (tC (.int 1))) [some (.ref r), some (nV g), some (.ref a), none] H4 (nV (p.length - 1)) := by
        refine ev_is (ev_op (len_rule (hR.mono e14) (ev_var rfl)) ev_c rv_I0) ?_
        show V.int ((p.length : Int) - 1) = V.int ((p.length - 1 : Nat) : Int)
        congr 1
        omega
      refine s_retV rfl (ev_is (ev_andV (ev_is (ev_isN (ev_call (ea_cons (ev_var rfl) (ea_cons hA (ea_cons (ev_var rfl) ea_nil))) (spv_behind (hR.mono e14) ok (by omega) (exu e4 ha3)))) (congrArg V.bl (pbV_non _))) fun _ => ev_op (ev_call (ea_cons (ev_var rfl) ea_nil) (spv_most (exu e4 ha3))) (ev_var rfl) rv_I0) ?_) fun H5 e5 => k H5 (e14.trans e5)
      congr 2
      exact decide_eq_decide.mpr (by show ((mo its).2 : Int) ≤ (g : Int) ↔ _; omega)
end
end K78

/-! K78x1: the law's bag, draws, shuffles. -/
namespace K78
open PySem PySem.Spec PyProof.Rows L2 Evl
local macro_rules | `(tactic| walk_at "sq") => `(tactic| first | exact sq_of (by assumption) | assumption)
local macro_rules | `(tactic| walk_at "at") => `(tactic| first | exact atI_nat (by assumption) | assumption)
local macro_rules | `(tactic| walk_at "side") => `(tactic| first | assumption | exact ⟨by decide, by decide⟩ | decide | omega)
local macro_rules | `(tactic| walk_at "rv") => `(tactic| first
  | exact rv_I0
  | exact rv_eq rfl
  | exact rv_ne rfl
  | (refine' rv_ixL ?h ?a; (case h => walk_at "sq"); (case a => walk_at "at"))
  | (refine' rv_I ?c; (case c => walk_at "side")))
local macro_rules | `(tactic| walk_at "ev") => `(tactic| first
  | exact ev_var rfl
  | exact ev_c
  | (refine' ev_isi ?a ?b (.ty _) ?c ?d; (case a => walk_at "ev"); (case b => walk_at "ev"); (case c => first | exact ty_int | exact ty_str | exact ty_lst (by assumption)); (case d => first | exact kit_ty k_ii | exact kit_ty k_ib | exact kit_ty k_si | exact kit_ty k_ll | exact kit_ty k_ss))
  | (refine' ev_op ?a ?b ?c; (case a => walk_at "ev"); (case b => walk_at "ev"); (case c => walk_at "rv"))
  | (refine' ev_un ?a ?b; (case a => walk_at "ev"); (case b => exact ru_neg))
  | (refine' ev_isN ?a; (case a => walk_at "ev"))
  | (refine' ev_notN ?a; (case a => walk_at "ev"))
  | (refine' ev_orV1 (ev_is ?a ?b); (case a => walk_at "ev"); (case b => decide))
  | (refine' ev_andV0 (ev_is ?a ?b); (case a => walk_at "ev"); (case b => decide))
  | (refine' ev_andV ?a ?b; (case a => walk_at "ev"); (case b => intro _; walk_at "ev"))
  | (refine' ev_orV ?a ?b; (case a => walk_at "ev"); (case b => intro _; walk_at "ev"))
  | (refine' ev_notV ?a; (case a => walk_at "ev"))
  | (refine' ev_len ?a ?b; (case a => walk_at "ev"); (case b => walk_at "sq"))
  | (refine' ev_chain ?a ?b ?c ?d ?e; (case a => walk_at "ev"); (case b => walk_at "ev"); (case c => walk_at "rv"); (case d => intro _; walk_at "ev"); (case e => intro _; walk_at "rv")))
local macro_rules | `(tactic| walk_at "et") => `(tactic| first
  | (refine' et_test ?a; (case a => walk_at "ev"))
  | (refine' et_B ?a; (case a => walk_at "ev"))
  | (refine' et_not ?a; (case a => walk_at "et"))
  | (refine' et_or1 (et_is ?a ?b); (case a => walk_at "et"); (case b => decide))
  | (refine' et_and0 (et_is ?a ?b); (case a => walk_at "et"); (case b => decide))
  | (refine' et_and ?a ?b; (case a => walk_at "et"); (case b => intro _; walk_at "et"))
  | (refine' et_or ?a ?b; (case a => walk_at "et"); (case b => intro _; walk_at "et")))
section
variable {P : Program} {w : World} {K : PySem.W.Frag} {mg : Str → Option Value} {base : Heap}
def BagAt (H : Hp) (b : Addr) : Prop := ∃ c t : Int, H b = some (.lst [.int c, .int t])
theorem BagAt.mono {H H' : Hp} {b : Addr} (e : Ex H H') (h : BagAt H b) : BagAt H' b := by
  obtain ⟨c, t, h⟩ := h
  exact ⟨c, t, exu e h⟩
def BagP (H : Hp) : V → Hp → Prop := fun v H' => ∃ b, v = .ref b ∧ H b = none ∧ BagAt H' b
def sp_law_bag : Sp := fun vs H Q _ => ∃ (c : Int) (k : Nat), vs = [.int c, nV k] ∧ RetP (BagP H) H Q
theorem ok_law_bag (T : Tx K mg) : FnOk P w K mg base CX0 1 T.a_law_bag T.d_law_bag ["_law_cell", "_law_k"] sp_law_bag := by
  refine T.h_law_bag.F.ok sc_law_bag (fun vs H Q E h => ?_) (fun cdv A outer s H vs Q E hr h => ?_)
  · obtain ⟨c, k, rfl, _⟩ := h
    rfl
  · obtain ⟨c, i, rfl, k⟩ := h
    refine ⟨_, (pss_cons (ps_if (pt_cmpR op_lt (pv 0) pe_int (nomark _))
      (pss_one (ps_ret (pe_lst (pa_cons (pe_un un_neg (pv 0)) (pa_cons (pe_op op_add (pe_op op_mul pe_int (pv 1)) pe_int) pa_nil)))))
      pss_nil)
      (pss_one (ps_ret (pe_lst (pa_cons (pv 0) (pa_cons (pe_op op_mul pe_int (pv 1)) pa_nil)))))), ?_⟩
    refine q_when (b := decide (c < 0)) (et_test (ev_op (ev_var rfl) ev_c rv_I0)) (fun _ H1 e1 => ?_) fun _ H1 e1 => ?_
    · exact s_retL (el_lst (ea_cons (ev_un (ev_var rfl) ru_neg) (ea_cons (ev_op (ev_op ev_c (ev_var rfl) (rv_I (.inl ⟨by decide, by decide⟩))) ev_c rv_I0) ea_nil)) len2) fun b H2 nb e2 hb => k _ H2 (e1.trans e2) ⟨b, rfl, fresh_back e1 nb, _, _, hb⟩
    · exact s_retL (el_lst (ea_cons (ev_var rfl) (ea_cons (ev_op ev_c (ev_var rfl) (rv_I (.inl ⟨by decide, by decide⟩))) ea_nil)) len2) fun b H2 nb e2 hb => k _ H2 (e1.trans e2) ⟨b, rfl, fresh_back e1 nb, _, _, hb⟩
/-! ### a draw -/
def sp_law_draw : Sp := fun vs H Q _ => ∃ (b : Addr) (n : Nat), vs = [.ref b, nV n] ∧ 0 < n ∧ n ≤ 1000 ∧ BagAt H b ∧ ∀ d H', d < n → Ex (del H b) H' → BagAt H' b → Q (nV d) H'
section
variable {σ : L2.St} {H : Hp} {ta tb te : TE}
theorem ev_int1 {i : Int} (h : Ev ta σ H (.int i)) : Ev (tCB (fun xs H Q => (∃ i, xs = [.int i] ∧ Q (.int i) H) ∨ ∃ k, xs = [.bl k] ∧ Q (.int (if k then 1 else 0)) H) (tCons ta tNil)) σ H (.int i) := fun H1 e Q q => h H1 e _ fun H2 e2 => .inl ⟨i, rfl, q H2 e2⟩
theorem ev_intB {b : Bool} (h : Ev ta σ H (.bl b)) : Ev (tCB (fun xs H Q => (∃ i, xs = [.int i] ∧ Q (.int i) H) ∨ ∃ k, xs = [.bl k] ∧ Q (.int (if k then 1 else 0)) H) (tCons ta tNil)) σ H (.int (if b then 1 else 0)) := fun H1 e Q q => h H1 e _ fun H2 e2 => .inr ⟨b, rfl, q H2 e2⟩
theorem fmod_nat {i : Int} {n : Nat} (h : 0 < n) : ∃ d : Nat, d < n ∧ i.fmod (n : Int) = (d : Int) := by
  rw [Int.fmod_eq_emod_of_nonneg i (show (0 : Int) ≤ (n : Int) by omega)]
  have h1 := Int.emod_nonneg i (show (n : Int) ≠ 0 by omega)
  have h2 := Int.emod_lt_of_pos i (show (0 : Int) < (n : Int) by omega)
  exact ⟨(i % n).toNat, by omega, by omega⟩
/-- a value below m, taken -/
theorem q_asgM {i m : Nat} {x : Int} {D : Ends} {tz : TS} (hm : 0 < m) (h : Ev te σ H (.int (x.fmod (m : Int)))) (k : ∀ (o : Nat) H1, o < m → Ex H H1 → tz D (σ.set i (some (nV o))) H1) : tSeq (tAsg te (gName i)) tz D σ H := by
  obtain ⟨d, h1, h2⟩ := fmod_nat (i := x) hm
  rw [h2] at h
  exact q_asg h fun H1 e1 => k d H1 h1 e1
end
theorem ok_law_draw (T : Tx K mg) : FnOk P w K mg base CX0 1 T.a_law_draw T.d_law_draw ["_law_bag_here", "_law_many"] sp_law_draw := by
  refine T.h_law_draw.F.ok sc_law_draw (fun vs H Q E h => ?_) (fun cdv A outer s H vs Q E hr h => ?_)
  · obtain ⟨b, n, rfl, _⟩ := h
    rfl
  · obtain ⟨b, n, rfl, hn, hn2, ⟨c, t, hb⟩, k⟩ := h
    refine ⟨_, (pss_cons (ps_augS (pv 0) pe_int get_list pe_int ip_add set_list)
      (pss_cons (ps_if (pt_cmpR op_ge (pe_ix (ix_listK (K := K) rfl) (pv 0) pe_int (fun _ _ => rfl)) (pe_op op_pow pe_int pe_int) (nomark _))
      (pss_cons (ps_set (i := 2) sc_law_draw.nd rfl (.inl rfl) (pe_op op_modN (pe_callTy call_int1 (by rfl) T.z_int (by decide +kernel) (pa_cons (pe_ix (ix_listK (K := K) rfl) (pv 0) pe_int (fun _ _ => rfl)) pa_nil)) (pv 1)))
      (pss_cons (ps_asg (pe_op op_fdivN (pe_ix (ix_listK (K := K) rfl) (pv 0) pe_int (fun _ _ => rfl)) (pv 1)) (pg_sub (pv 0) pe_int set_list))
      (pss_one (ps_ret (pv 2)))))
      pss_nil)
      (pss_cons (ps_set (i := 3) sc_law_draw.nd rfl (.inl rfl) (pe_op op_modN (pe_callTy call_int1 (by rfl) T.z_int (by decide +kernel) (pa_cons (pe_op op_add (pe_op op_add (pe_op op_modN (pe_callTy call_int1 (by rfl) T.z_int (by decide +kernel) (pa_cons (pe_ix (ix_listK (K := K) rfl) (pv 0) pe_int (fun _ _ => rfl)) pa_nil)) pe_int) (pe_op op_mul pe_int (pe_ix (ix_listK (K := K) rfl) (pv 0) pe_int (fun _ _ => rfl)))) pe_int) pa_nil)) pe_int))
      (pss_cons (ps_set (i := 3) sc_law_draw.nd rfl (.inl rfl) (pe_op op_modN (pe_callTy call_int1 (by rfl) T.z_int (by decide +kernel) (pa_cons (pe_op op_mul (pv 3) (pv 3)) pa_nil)) pe_int))
      (pss_cons (ps_set (i := 3) sc_law_draw.nd rfl (.inl rfl) (pe_op op_modN (pe_callTy call_int1 (by rfl) T.z_int (by decide +kernel) (pa_cons (pe_op op_add (pv 3) (pe_op op_mul pe_int (pe_ix (ix_listK (K := K) rfl) (pv 0) pe_int (fun _ _ => rfl)))) pa_nil)) pe_int))
      (pss_cons (ps_set (i := 3) sc_law_draw.nd rfl (.inl rfl) (pe_op op_modN (pe_callTy call_int1 (by rfl) T.z_int (by decide +kernel) (pa_cons (pe_op op_mul (pv 3) (pv 3)) pa_nil)) pe_int))
      (pss_one (ps_ret (pe_op op_modN (pe_callTy call_int1 (by rfl) T.z_int (by decide +kernel) (pa_cons (pe_op op_fdivN (pv 3) pe_int) pa_nil)) (pv 1)))))))))), ?_⟩
    -- bag[1] += 1
    refine ⟨_, rfl, b, [.int c, .int t], 1, .int t, rfl, rfl, sq_of hb, atI_nat (j := 1) rfl, t, 1, rfl, rfl, b, [.int c, .int t], 1, 1, rfl, rfl, hb, by rfl, ?_⟩
    have hb1 : (upd H b (.lst ([V.int c, V.int t].set 1 (.int (t + 1))))) b = some (.lst [.int c, .int (t + 1)]) := upd_same
    have eA : Ex (del H b) (upd H b (.lst ([V.int c, V.int t].set 1 (.int (t + 1))))) := ex_upd del_ex
    generalize (upd H b (.lst ([V.int c, V.int t].set 1 (.int (t + 1))))) = HA at hb1 eA ⊢
    have hn3 : ((n : Nat) : Int) ≠ 0 := by omega
    have g0 : ∀ H1, Ex HA H1 → ∀ σ : L2.St, σ[0]? = some (some (.ref b)) → Ev (tOp (rIxL K) (tVar 0) (tC (.int 0))) σ H1 (.int c) := fun H1 e1 σ hs => ev_op (ev_var hs) ev_c (rv_ixL (sq_of (exu e1 hb1)) (atI_nat (j := 0) rfl))
    have g1 : ∀ H1, Ex HA H1 → ∀ σ : L2.St, σ[0]? = some (some (.ref b)) → Ev (tOp (rIxL K) (tVar 0) (tC (.int 1))) σ H1 (.int (t + 1)) := fun H1 e1 σ hs => ev_op (ev_var hs) ev_c (rv_ixL (sq_of (exu e1 hb1)) (atI_nat (j := 1) rfl))
    refine q_when (b := decide ((10 : Int) ^ (18 : Int).toNat ≤ c)) (et_test (ev_op (g0 HA (Ex.refl _) _ rfl) (ev_op ev_c ev_c (rv_I ⟨by decide, by decide, by decide⟩)) rv_I0)) (fun _ H1 e1 => ?_) fun _ H1 e1 => ?_
    · refine q_asgM hn (ev_op (ev_int1 (g0 H1 e1 _ rfl)) (ev_var rfl) (rv_I hn3)) fun o H2 ho e2 => ?_
      refine q_setL (j := 0) (exu (e1.trans e2) hb1) (ev_op (g0 H2 (e1.trans e2) _ rfl) (ev_var rfl) (rv_I ⟨hn3, by omega⟩)) (ev_var rfl) ev_c (by show 0 < 2; decide) fun H3 e3 => ?_
      exact s_ret (ev_var rfl) fun H4 e4 => k o H4 ho ((ex_upd (eA.trans ((e1.trans e2).trans e3))).trans e4) ⟨_, _, exu e4 upd_same⟩
    · refine q_asgM (m := 2147483587) (by decide) (ev_op (ev_int1 (ev_op (ev_op (ev_op (ev_int1 (g0 H1 e1 _ rfl)) ev_c (rv_I (by decide))) (ev_op ev_c (g1 H1 e1 _ rfl) (rv_I (.inl ⟨by decide, by decide⟩))) rv_I0) ev_c rv_I0)) ev_c (rv_I (by decide))) fun o H2 ho e2 => ?_
      have e12 := e1.trans e2
      refine q_asgM (m := 2147483587) (by decide) (ev_op (ev_int1 (ev_op (ev_var rfl) (ev_var rfl) (rv_I (.inl ⟨by omega, by omega⟩)))) ev_c (rv_I (by decide))) fun o H3 ho e3 => ?_
      have e13 := e12.trans e3
      refine q_asgM (m := 2147483563) (by decide) (ev_op (ev_int1 (ev_op (ev_var rfl) (ev_op ev_c (g1 H3 e13 _ rfl) (rv_I (.inl ⟨by decide, by decide⟩))) rv_I0)) ev_c (rv_I (by decide))) fun o H4 ho e4 => ?_
      have e14 := e13.trans e4
      refine q_asgM (m := 2147483563) (by decide) (ev_op (ev_int1 (ev_op (ev_var rfl) (ev_var rfl) (rv_I (.inl ⟨by omega, by omega⟩)))) ev_c (rv_I (by decide))) fun o H5 ho e5 => ?_
      have e15 := e14.trans e5
      obtain ⟨d, h1, h2⟩ := fmod_nat (i := ((o : Nat) : Int).fdiv 8) hn
      refine s_ret (ev_is (ev_op (ev_int1 (ev_op (ev_var rfl) ev_c (rv_I ⟨by decide, by decide⟩))) (ev_var rfl) (rv_I hn3)) (congrArg V.int h2)) fun H6 e6 => ?_
      exact k d H6 h1 (eA.trans (e15.trans e6)) ⟨_, _, exu (e15.trans e6) hb1⟩
end
end K78

/-! K78x2: shuffles, lifted rules. -/
namespace K78
open PySem PySem.Spec PyProof.Rows L2 Evl
local macro_rules | `(tactic| walk_at "sq") => `(tactic| first | exact sq_of (by assumption) | assumption)
local macro_rules | `(tactic| walk_at "at") => `(tactic| first | exact atI_nat (by assumption) | assumption)
local macro_rules | `(tactic| walk_at "side") => `(tactic| first | assumption | exact ⟨by decide, by decide⟩ | decide | omega)
local macro_rules | `(tactic| walk_at "rv") => `(tactic| first
  | exact rv_I0
  | exact rv_eq rfl
  | exact rv_ne rfl
  | (refine' rv_ixL ?h ?a; (case h => walk_at "sq"); (case a => walk_at "at"))
  | (refine' rv_I ?c; (case c => walk_at "side")))
local macro_rules | `(tactic| walk_at "ev") => `(tactic| first
  | exact ev_var rfl
  | exact ev_c
  | (refine' ev_isi ?a ?b (.ty _) ?c ?d; (case a => walk_at "ev"); (case b => walk_at "ev"); (case c => first | exact ty_int | exact ty_str | exact ty_lst (by assumption)); (case d => first | exact kit_ty k_ii | exact kit_ty k_ib | exact kit_ty k_si | exact kit_ty k_ll | exact kit_ty k_ss))
  | (refine' ev_op ?a ?b ?c; (case a => walk_at "ev"); (case b => walk_at "ev"); (case c => walk_at "rv"))
  | (refine' ev_un ?a ?b; (case a => walk_at "ev"); (case b => exact ru_neg))
  | (refine' ev_isN ?a; (case a => walk_at "ev"))
  | (refine' ev_notN ?a; (case a => walk_at "ev"))
  | (refine' ev_orV1 (ev_is ?a ?b); (case a => walk_at "ev"); (case b => decide))
  | (refine' ev_andV0 (ev_is ?a ?b); (case a => walk_at "ev"); (case b => decide))
  | (refine' ev_andV ?a ?b; (case a => walk_at "ev"); (case b => intro _; walk_at "ev"))
  | (refine' ev_orV ?a ?b; (case a => walk_at "ev"); (case b => intro _; walk_at "ev"))
  | (refine' ev_notV ?a; (case a => walk_at "ev"))
  | (refine' ev_len ?a ?b; (case a => walk_at "ev"); (case b => walk_at "sq"))
  | (refine' ev_chain ?a ?b ?c ?d ?e; (case a => walk_at "ev"); (case b => walk_at "ev"); (case c => walk_at "rv"); (case d => intro _; walk_at "ev"); (case e => intro _; walk_at "rv")))
local macro_rules | `(tactic| walk_at "et") => `(tactic| first
  | (refine' et_test ?a; (case a => walk_at "ev"))
  | (refine' et_B ?a; (case a => walk_at "ev"))
  | (refine' et_not ?a; (case a => walk_at "et"))
  | (refine' et_or1 (et_is ?a ?b); (case a => walk_at "et"); (case b => decide))
  | (refine' et_and0 (et_is ?a ?b); (case a => walk_at "et"); (case b => decide))
  | (refine' et_and ?a ?b; (case a => walk_at "et"); (case b => intro _; walk_at "et"))
  | (refine' et_or ?a ?b; (case a => walk_at "et"); (case b => intro _; walk_at "et")))
section
variable {P : Program} {w : World} {K : PySem.W.Frag} {mg : Str → Option Value} {base : Heap}
/-- an expression that may draw from the bag b -/
def EvD (b : Addr) (te : TE) (σ : L2.St) (H : Hp) (Po : V → Hp → Prop) : Prop := ∀ H1, Ex (del H b) H1 → BagAt H1 b → ∀ Q : VK, (∀ v H2, Ex (del H1 b) H2 → BagAt H2 b → Po v H2 → Q v H2) → te σ H1 Q
section
variable {σ : L2.St} {H : Hp} {ta tb te : TE} {tr : TA} {b : Addr} {Po Po' : V → Hp → Prop} {D : Ends} {tz : TS}
theorem evd_of (h : EvP te σ (del H b) Po) : EvD b te σ H Po := fun H1 e hb Q q => h H1 e Q fun v H2 e2 p => q v H2 (del_ex.trans e2) (hb.mono e2) p
theorem evd_imp (h : EvD b te σ H Po) (k : ∀ v H', Po v H' → Po' v H') : EvD b te σ H Po' := fun H1 e hb Q q => h H1 e hb Q fun v H2 e2 hb2 p => q v H2 e2 hb2 (k v H2 p)
theorem evd_draw {n : Nat} {E : XK} (h : EvA tr σ (del H b) [.ref b, nV n]) (h0 : 0 < n) (h1 : n ≤ 1000) : EvD b (tCall sp_law_draw [] E tr) σ H (fun v _ => ∃ d, d < n ∧ v = nV d) := fun H1 e hb Q q =>
  h H1 e _ fun H2 e2 => ⟨b, n, rfl, h0, h1, hb.mono e2, fun d H3 hd e3 hb3 => q _ H3 ((ex_del2 (del_ex.trans e2)).trans e3) hb3 ⟨d, hd, rfl⟩⟩
theorem q_asgD {i : Nat} (h : EvD b te σ H Po) (hb : BagAt H b) (k : ∀ v H1, Ex (del H b) H1 → BagAt H1 b → Po v H1 → tz D (σ.set i (some v)) H1) : tSeq (tAsg te (gName i)) tz D σ H := h H del_ex hb _ fun v H1 e hb1 p => k v H1 e hb1 p
end
theorem erase_map {α β : Type} (f : α → β) : ∀ (l : List α) (d : Nat), (l.map f).eraseIdx d = (l.eraseIdx d).map f
  | [], d => by simp
  | x :: l, 0 => by simp
  | x :: l, d + 1 => by simp [erase_map f l d]
theorem perm_erase {α : Type} : ∀ (l : List α) (d : Nat) (h : d < l.length), (l[d] :: l.eraseIdx d).Perm l
  | x :: l, 0, _ => List.Perm.refl _
  | x :: l, d + 1, h => by
    have h' : d < l.length := by simpa using h
    have ih := perm_erase l d h'
    simp only [List.getElem_cons_succ, List.eraseIdx_cons_succ]
    exact (List.Perm.swap x l[d] _).trans (List.Perm.cons x ih)
def sp_law_shuffle : Sp := fun vs H Q _ => ∃ (b : Addr) (n : Nat), vs = [.ref b, nV n] ∧ n ≤ 60 ∧ BagAt H b ∧ ∀ l (xs : List Nat) H', H l = none → Ex (del H b) H' → BagAt H' b → H' l = some (.lst (xs.map nV)) → xs.Perm (List.range n) → Q (.ref l) H'
theorem ok_law_shuffle (T : Tx K mg) : FnOk P w K mg base CX0 2 T.a_law_shuffle T.d_law_shuffle ["_law_bag_here", "_law_many"] sp_law_shuffle := by
  refine T.h_law_shuffle.F.ok sc_law_shuffle (fun vs H Q E h => ?_) (fun cdv A outer s H vs Q E hr h => ?_)
  · obtain ⟨b, n, rfl, _⟩ := h
    rfl
  · obtain ⟨b, n, rfl, hn, hb, k⟩ := h
    refine ⟨_, (pss_cons (ps_set (i := 2) sc_law_shuffle.nd rfl (.inl rfl) (pe_listRg rfl rfl T.z_list (prg_1 rfl T.z_range (pv 1))))
      (pss_cons (ps_set (i := 3) sc_law_shuffle.nd rfl (.inl rfl) (pe_lst pa_nil))
      (pss_cons (ps_while PassesOwn.never (pt_cmpR (op_neD hr.units) (pv 2) (pe_lst pa_nil) (nomark _))
      (pss_one (ps_expr (pe_bm PySem.F.plainAttrs_list PySem.F.slot_list_append PySem.F.type_list_append mt_append (pv 3) (pa_cons (pe_bm PySem.F.plainAttrs_list PySem.F.slot_list_pop PySem.F.type_list_pop mt_popAt (pv 2) (pa_cons (pe_call (ok_law_draw T) (hr.mono (by decide)) (by rfl) T.h_law_draw.g T.h_law_draw.kp T.h_law_draw.b .nil pass0 (pa_cons (pv 0) (pa_cons (pe_callB (call_len_seqK (K := K) rfl) (by rfl) T.z_len PySem.boot_len (pa_cons (pv 2) pa_nil)) pa_nil))) pa_nil)) pa_nil)))))
      (pss_one (ps_ret (pv 3)))))), ?_⟩
    refine q_asgL (el_listRg1 (ev_var rfl) (by omega)) fun l1 H1 n1 e1 h1 => ?_
    refine q_asgL (el_lst ea_nil (Nat.zero_le _)) fun l2 H2 n2 e2 h2 => ?_
    have e12 := e1.trans e2
    have h12 : l1 ≠ l2 := ne_of_none h1 n2
    have n2' := fresh_back e1 n2
    have hb' := hb
    obtain ⟨c, t, hbb⟩ := hb'
    have b1 : l1 ≠ b := (ne_of_none hbb n1).symm
    have b2 : l2 ≠ b := (ne_of_none hbb n2').symm
    refine q_while (fun m σ' H' => ∃ ls fs : List Nat, m = ls.length ∧ σ' = [some (.ref b), some (nV n), some (.ref l1), some (.ref l2)] ∧ Ex (del H b) H' ∧ BagAt H' b ∧ H' l1 = some (.lst (ls.map nV)) ∧ H' l2 = some (.lst (fs.map nV)) ∧ (fs ++ ls).Perm (List.range n)) n
      ⟨List.range n, [], by rw [List.length_range], rfl, del_ex.trans e12, hb.mono e12, exu e2 h1, h2, List.Perm.refl _⟩ ?_
    rintro m σ' H3 ⟨ls, fs, rfl, rfl, e3, hb3, g1, g2, hp⟩
    refine ⟨!decide (ls = []), et_test (ev_opL (ev_var rfl) (el_lst ea_nil (Nat.zero_le _)) fun q H4 hq e => rv_neN (ms := []) (exu e g1) hq), fun hx H4 e4 => ⟨_, fun σ2 H2 h => h, ?_⟩, fun hx H4 e4 => ?_⟩
    · have hls : ls ≠ [] := by simpa using hx
      have hlen : 0 < ls.length := List.length_pos_iff.mpr hls
      have hln : fs.length + ls.length = n := by
        have := hp.length_eq
        rw [List.length_append, List.length_range] at this
        exact this
      have g1' := exu e4 g1
      have g2' := exu e4 g2
      refine ⟨_, rfl, .inl ⟨rfl, _, sq_of g2'⟩, _, rfl, .inl ⟨rfl, _, sq_of g1'⟩, ?_⟩
      refine (evd_draw (H := H4) (ea_cons (ev_var rfl) (ea_cons (ev_is (ev_len (ev_var rfl) (sq_of (del_put g1' b1))) (by rw [List.length_map])) ea_nil)) hlen (by omega) : EvD b _ _ H4 _) H4 del_ex (hb3.mono e4) _ fun v H5 e5 hb5 hv => ?_
      obtain ⟨d, hd, rfl⟩ := hv
      have g15 := e5 _ _ (del_put g1' b1)
      have g25 := e5 _ _ (del_put g2' b2)
      refine ⟨l1, ls.map nV, (d : Int), d, nV ls[d], rfl, rfl, g15, by omega, by omega, ?_, by rw [List.getElem?_map, List.getElem?_eq_getElem hd]; rfl, ?_⟩
      · have := seqIndex_of (k := (d : Int)) (n := (ls.map nV).length) (by omega) (by rw [List.length_map]; omega)
        rw [this, Int.toNat_natCast]
      refine ⟨l2, fs.map nV, nV ls[d], rfl, rfl, by rw [upd_ne h12.symm]; exact g25, sz_lt (by rw [List.length_map]; omega), ?_⟩
      refine ⟨(ls.eraseIdx d).length, by rw [List.length_eraseIdx_of_lt hd]; omega, ls.eraseIdx d, fs ++ [ls[d]], rfl, rfl, ?_, ?_, ?_, ?_, ?_⟩
      · have e35 : Ex (del H b) H5 := (ex_del2 (e3.trans e4)).trans e5
        exact (e35.mut (by unfold del; split <;> first | rfl | exact n1)).mut (by unfold del; split <;> first | rfl | exact n2')
      · obtain ⟨c5, t5, hb5⟩ := hb5
        exact ⟨c5, t5, by rw [upd_ne b2.symm, upd_ne b1.symm]; exact hb5⟩
      · rw [upd_ne h12, upd_same, erase_map]
      · rw [upd_same, List.map_append]
        rfl
      · refine List.Perm.trans ?_ hp
        rw [List.append_assoc]
        exact List.Perm.append_left _ (perm_erase ls d hd)
    · have hls : ls = [] := by simpa using hx
      subst hls
      rw [List.append_nil] at hp
      exact s_ret (ev_var rfl) fun H5 e5 => k l2 fs H5 n2' (e3.trans (e4.trans e5)) (hb3.mono (e4.trans e5)) (exu (e4.trans e5) g2) hp
theorem none_of {H : Hp} {b l : Addr} (h : (del H b) l = none) (n : l ≠ b) : H l = none := by
  rw [del_ne n] at h
  exact h
theorem bag_ne {H : Hp} {b l : Addr} (h : BagAt H b) (n : H l = none) : l ≠ b := by
  obtain ⟨c, t, h⟩ := h
  exact (ne_of_none h n).symm
theorem evd_shuffle {σ : L2.St} {H : Hp} {tr : TA} {b : Addr} {n : Nat} {E : XK} (h : EvA tr σ (del H b) [.ref b, nV n]) (h1 : n ≤ 60) : EvD b (tCall sp_law_shuffle [] E tr) σ H (fun v H' => ∃ (l : Addr) (xs : List Nat), v = .ref l ∧ H l = none ∧ l ≠ b ∧ H' l = some (.lst (xs.map nV)) ∧ xs.Perm (List.range n)) := fun H1 e hb Q q =>
  h H1 e _ fun H2 e2 => ⟨b, n, rfl, h1, hb.mono e2, fun l xs H3 nl e3 hb3 hl hp => q _ H3 ((ex_del2 (del_ex.trans e2)).trans e3) hb3 ⟨l, xs, rfl, none_of (fresh_back (e.trans e2) nl) (bag_ne (hb.mono e2) nl), bag_ne (hb.mono e2) nl, hl, hp⟩⟩
/-! ### lifted -/
def liftV (i a j : Nat) : Nat := if j = i then a else if i < j ∧ j ≤ a then j - 1 else j
def liftRow (k i a : Nat) : List Nat := (List.range k).map (liftV i a)
def lifted (as : List Nat) : Plan := (List.range as.length).map fun i => liftRow as.length i (as.getD i 0)
theorem lift_perm : ∀ k : Fin 6, ∀ i : Fin 6, ∀ a : Fin 6, i.1 ≤ a.1 → a.1 < k.1 → (liftRow k.1 i.1 a.1).Perm (List.range k.1) := by decide +kernel
theorem lifted_ok {as : List Nat} (h2 : 2 ≤ as.length) (h5 : as.length ≤ 5) (h : ∀ i, i < as.length → i ≤ as.getD i 0 ∧ as.getD i 0 < as.length) : RuleOk (lifted as) := by
  have hl : (lifted as).length = as.length := by
    unfold lifted
    rw [List.length_map, List.length_range]
  refine ⟨by omega, by omega, fun r hr => ?_⟩
  rw [hl]
  obtain ⟨i, hi, rfl⟩ := List.mem_map.mp hr
  obtain ⟨a1, a2⟩ := h i (List.mem_range.mp hi)
  exact lift_perm ⟨as.length, by omega⟩ ⟨i, by omega⟩ ⟨as.getD i 0, by omega⟩ a1 a2
/-- a new rule -/
def RuleN (H H' : Hp) (r : Addr) (p : Plan) : Prop := ∃ as : List Addr, H r = none ∧ H' r = some (.lst (as.map V.ref)) ∧ Paired (fun a row => H a = none ∧ H' a = some (.lst (row.map nV))) as p
theorem RuleN.at {H H' : Hp} {r b : Addr} {p : Plan} (h : RuleN H H' r p) (hb : H b ≠ none) : RuleAt (del H' b) r p := by
  obtain ⟨as, h1, h2, h3⟩ := h
  exact ⟨as, del_put h2 fun e => hb (e ▸ h1), Paired.mapP h3 fun a row ⟨z1, z2⟩ => del_put z2 fun e => hb (e ▸ z1)⟩
def sp_law_lifted : Sp := fun vs H Q _ => ∃ (a : Addr) (as : List Nat), vs = [.ref a] ∧ H a = some (.lst (as.map nV)) ∧ as.length ≤ 60 ∧ RetP (fun v H' => ∃ r, v = .ref r ∧ RuleN H H' r (lifted as)) H Q
theorem range_take {n i : Nat} (h : i < n) : (List.range n).take (i + 1) = (List.range n).take i ++ [i] := by
  rw [List.take_add_one, List.getElem?_range h]
  rfl
theorem ok_law_lifted (T : Tx K mg) : FnOk P w K mg base CX0 1 T.a_law_lifted T.d_law_lifted ["_law_aims"] sp_law_lifted := by
  refine T.h_law_lifted.F.ok sc_law_lifted (fun vs H Q E h => ?_) (fun cdv A outer s H vs Q E hr h => ?_)
  · obtain ⟨a, as, rfl, _⟩ := h
    rfl
  · obtain ⟨a, as, rfl, ha, hz, k⟩ := h
    refine ⟨_, (pss_cons (ps_set (i := 1) sc_law_lifted.nd rfl (.inl rfl) (pe_lst pa_nil))
      (pss_cons (ps_for PassesOwn.never rfl (pi_range1 rfl T.z_range (pa_cons (pe_callB (call_len_seqK (K := K) rfl) (by rfl) T.z_len PySem.boot_len (pa_cons (pv 0) pa_nil)) pa_nil)) (pg_name (i := 2) sc_law_lifted.nd rfl (.inl rfl))
      (pss_cons (ps_set (i := 3) sc_law_lifted.nd rfl (.inl rfl) (pe_lst pa_nil))
      (pss_cons (ps_for PassesOwn.never rfl (pi_range1 rfl T.z_range (pa_cons (pe_callB (call_len_seqK (K := K) rfl) (by rfl) T.z_len PySem.boot_len (pa_cons (pv 0) pa_nil)) pa_nil)) (pg_name (i := 4) sc_law_lifted.nd rfl (.inl rfl))
      (pss_one (ps_expr (pe_bm PySem.F.plainAttrs_list PySem.F.slot_list_append PySem.F.type_list_append mt_append (pv 3) (pa_cons (pe_ifExp (pt_cmpR op_eq (pv 4) (pv 2) (nomark _)) (pe_ix (ix_listK (K := K) rfl) (pv 0) (pv 2) (fun _ _ => rfl)) (pe_op op_sub (pv 4) (pe_callTy call_int1 (by rfl) T.z_int (by decide +kernel) (pa_cons (pe_chain op_lt op_le (pv 2) (pv 4) (pe_ix (ix_listK (K := K) rfl) (pv 0) (pv 2) (fun _ _ => rfl))) pa_nil)))) pa_nil)))))
      (pss_one (ps_expr (pe_bm PySem.F.plainAttrs_list PySem.F.slot_list_append PySem.F.type_list_append mt_append (pv 1) (pa_cons (pv 3) pa_nil)))))))
      (pss_one (ps_ret (pv 1))))), ?_⟩
    refine q_asgL (el_lst ea_nil (Nat.zero_le _)) fun f H1 nf e1 hf => ?_
    have hlen : ∀ H', Ex H H' → ∀ σ : L2.St, σ[0]? = some (some (.ref a)) → EvA (tCons (tCB (rLenS K) (tCons (tVar 0) tNil)) tNil) σ H' [nV as.length] := fun H' e σ hs => ea_cons (ev_is (ev_len (ev_var hs) (sq_of (exu e ha))) (by rw [List.length_map])) ea_nil
    refine q_forR1 (n := (as.length : Int)) (hlen H1 e1 _ rfl) (by omega) (fun i σ' H' => ∃ rows y2 y3 y4, σ' = [some (.ref a), some (.ref f), y2, y3, y4] ∧ Ex H H' ∧ H' f = some (.lst (rows.map V.ref)) ∧ Paired (fun x row => H x = none ∧ x ≠ f ∧ H' x = some (.lst (row.map nV))) rows ((lifted as).take i))
      (fun H2 e2 => ⟨[], none, none, none, rfl, e1.trans e2, exu e2 hf, .nil⟩) ?_ ?_
    · rintro i σ' H2 hi ⟨rows, y2, y3, y4, rfl, e2, hf2, hr2⟩
      have hi' : i < as.length := by omega
      have hga : as[i]? = some (as.getD i 0) := by
        rw [getD_of hi', List.getElem?_eq_getElem hi']
      have gix : ∀ H', Ex H H' → ∀ σ : L2.St, σ[0]? = some (some (.ref a)) → σ[2]? = some (some (nV i)) → Ev (tOp (rIxL K) (tVar 0) (tVar 2)) σ H' (nV (as.getD i 0)) := fun H' e σ s0 s2 => ev_op (ev_var s0) (ev_var s2) (rv_ixL (sq_of (exu e ha)) (atI_nat (by rw [List.getElem?_map, hga]; rfl)))
      refine q_asgL (el_lst ea_nil (Nat.zero_le _)) fun l H3 nl e3 hl => ?_
      have lf : l ≠ f := (ne_of_none hf2 nl).symm
      refine q_forR1 (n := (as.length : Int)) (hlen H3 (e2.trans e3) _ rfl) (by omega) (fun j σ' H' => ∃ y4, σ' = [some (.ref a), some (.ref f), some (nV i), some (.ref l), y4] ∧ Ex H2 H' ∧ H' l = some (.lst ((((List.range as.length).take j).map (liftV i (as.getD i 0))).map nV)))
        (fun H4 e4 => ⟨y4, rfl, e3.trans e4, exu e4 hl⟩) ?_ ?_
      · rintro j σ' H4 hj ⟨y4, rfl, e4, hl4⟩
        have hj' : j < as.length := by omega
        have e24 := e2.trans e4
        refine s_app hl4 (ev_var rfl) (v := nV (liftV i (as.getD i 0) j)) ?_ (by rw [List.length_map, List.length_map, List.length_take]; omega) fun H5 e5 => ⟨_, rfl, (e4.trans e5).mut nl, ?_⟩
        · refine ev_if (b := decide (j = i)) (et_is (et_test (ev_op (ev_var rfl) (ev_var rfl) (rv_eq rfl))) ?_) (fun hb => ev_is (gix H4 e24 _ rfl rfl) ?_) fun hb => ev_is (ev_op (ev_var rfl) (ev_intB (ev_chain (ev_var rfl) (ev_var rfl) rv_I0 (fun _ => gix H4 e24 _ rfl rfl) fun _ => rv_I0)) rv_I0) ?_
          · show decide (nV j = nV i) = _
            exact decide_eq_decide.mpr ⟨fun z => Int.ofNat.inj (V.int.inj z), fun z => by rw [z]⟩
          · have c := of_decide_eq_true hb
            unfold liftV
            rw [if_pos c]
          · have c := of_decide_eq_false hb
            unfold liftV
            rw [if_neg c]
            by_cases c2 : i < j ∧ j ≤ as.getD i 0
            · rw [if_pos c2, decide_eq_true (show (i : Int) < (j : Int) by omega), decide_eq_true (show (j : Int) ≤ ((as.getD i 0 : Nat) : Int) by omega)]
              show V.int ((j : Int) - 1) = V.int ((j - 1 : Nat) : Int)
              congr 1
              omega
            · rw [if_neg c2]
              have : (decide ((i : Int) < (j : Int)) && decide ((j : Int) ≤ ((as.getD i 0 : Nat) : Int))) = false := by
                rw [Bool.and_eq_false_iff]
                by_cases c3 : i < j
                · exact .inr (decide_eq_false (by omega))
                · exact .inl (decide_eq_false (by omega))
              rw [this]
              show V.int ((j : Int) - 0) = V.int (j : Int)
              rw [Int.sub_zero]
        · rw [upd_same, range_take hj', List.map_append, List.map_append]
          rfl
      · rintro σ' H4 ⟨y4, rfl, e4, hl4⟩
        rw [Int.toNat_natCast, show (List.range as.length).take as.length = List.range as.length from by rw [List.take_of_length_le (by rw [List.length_range]; exact Nat.le_refl _)]] at hl4
        have hrl : rows.length ≤ as.length := by
          rw [paired_len hr2, List.length_take]
          unfold lifted
          rw [List.length_map, List.length_range]
          omega
        refine s_app (exu e4 hf2) (ev_var rfl) (ev_var rfl) (by rw [List.length_map]; omega) fun H5 e5 => ⟨rows ++ [l], _, _, _, rfl, (e2.trans (e4.trans e5)).mut nf, ?_, ?_⟩
        · rw [upd_same, List.map_append]
          rfl
        · have : (lifted as).take (i + 1) = (lifted as).take i ++ [liftRow as.length i (as.getD i 0)] := by
            refine take_snoc ?_
            unfold lifted
            rw [List.getElem?_map, List.getElem?_range hi']
            rfl
          rw [this]
          refine paired_snoc (Paired.mapP hr2 fun x row ⟨z1, z2, z3⟩ => ⟨z1, z2, ?_⟩) ⟨fresh_back e2 nl, lf, ?_⟩
          · rw [upd_ne z2]
            exact exu (e4.trans e5) z3
          · rw [upd_ne lf]
            exact exu e5 hl4
    · rintro σ' H2 ⟨rows, y2, y3, y4, rfl, e2, hf2, hr2⟩
      rw [Int.toNat_natCast, List.take_of_length_le (by unfold lifted; rw [List.length_map, List.length_range]; exact Nat.le_refl _)] at hr2
      exact s_ret (ev_var rfl) fun H3 e3 => k _ H3 (e2.trans e3) ⟨f, rfl, rows, nf, exu e3 hf2, Paired.mapP hr2 fun x row ⟨z1, _, z3⟩ => ⟨z1, exu e3 z3⟩⟩
end
end K78

/-! K78x3: drawn rules. -/
namespace K78
open PySem PySem.Spec PyProof.Rows L2 Evl
local macro_rules | `(tactic| walk_at "sq") => `(tactic| first | exact sq_of (by assumption) | assumption)
local macro_rules | `(tactic| walk_at "at") => `(tactic| first | exact atI_nat (by assumption) | assumption)
local macro_rules | `(tactic| walk_at "side") => `(tactic| first | assumption | exact ⟨by decide, by decide⟩ | decide | omega)
local macro_rules | `(tactic| walk_at "rv") => `(tactic| first
  | exact rv_I0
  | exact rv_eq rfl
  | exact rv_ne rfl
  | (refine' rv_ixL ?h ?a; (case h => walk_at "sq"); (case a => walk_at "at"))
  | (refine' rv_I ?c; (case c => walk_at "side")))
local macro_rules | `(tactic| walk_at "ev") => `(tactic| first
  | exact ev_var rfl
  | exact ev_c
  | (refine' ev_isi ?a ?b (.ty _) ?c ?d; (case a => walk_at "ev"); (case b => walk_at "ev"); (case c => first | exact ty_int | exact ty_str | exact ty_lst (by assumption)); (case d => first | exact kit_ty k_ii | exact kit_ty k_ib | exact kit_ty k_si | exact kit_ty k_ll | exact kit_ty k_ss))
  | (refine' ev_op ?a ?b ?c; (case a => walk_at "ev"); (case b => walk_at "ev"); (case c => walk_at "rv"))
  | (refine' ev_un ?a ?b; (case a => walk_at "ev"); (case b => exact ru_neg))
  | (refine' ev_isN ?a; (case a => walk_at "ev"))
  | (refine' ev_notN ?a; (case a => walk_at "ev"))
  | (refine' ev_orV1 (ev_is ?a ?b); (case a => walk_at "ev"); (case b => decide))
  | (refine' ev_andV0 (ev_is ?a ?b); (case a => walk_at "ev"); (case b => decide))
  | (refine' ev_andV ?a ?b; (case a => walk_at "ev"); (case b => intro _; walk_at "ev"))
  | (refine' ev_orV ?a ?b; (case a => walk_at "ev"); (case b => intro _; walk_at "ev"))
  | (refine' ev_notV ?a; (case a => walk_at "ev"))
  | (refine' ev_len ?a ?b; (case a => walk_at "ev"); (case b => walk_at "sq"))
  | (refine' ev_chain ?a ?b ?c ?d ?e; (case a => walk_at "ev"); (case b => walk_at "ev"); (case c => walk_at "rv"); (case d => intro _; walk_at "ev"); (case e => intro _; walk_at "rv")))
local macro_rules | `(tactic| walk_at "et") => `(tactic| first
  | (refine' et_test ?a; (case a => walk_at "ev"))
  | (refine' et_B ?a; (case a => walk_at "ev"))
  | (refine' et_not ?a; (case a => walk_at "et"))
  | (refine' et_or1 (et_is ?a ?b); (case a => walk_at "et"); (case b => decide))
  | (refine' et_and0 (et_is ?a ?b); (case a => walk_at "et"); (case b => decide))
  | (refine' et_and ?a ?b; (case a => walk_at "et"); (case b => intro _; walk_at "et"))
  | (refine' et_or ?a ?b; (case a => walk_at "et"); (case b => intro _; walk_at "et")))
section
variable {P : Program} {w : World} {K : PySem.W.Frag} {mg : Str → Option Value} {base : Heap}
section
variable {σ : L2.St} {H : Hp} {ta tb te : TE} {tr : TA} {b : Addr} {Po Po' : V → Hp → Prop} {D : Ends} {tz : TS}
theorem evd_lcR {R : Hp → V → Nat → Prop} {tl : TA} {n j : Nat} {vs : List Nat} (stab : ∀ H H' v i, (∀ a o, v = .ref a → H a = some o → H' a = some o) → R H v i → R H' v i)
    (h : EvA tl σ (del H b) [nV n]) (hz : n ≤ 1000) (hw : ∀ x, wipe ((wipe σ vs).set j (some x)) vs = wipe σ vs)
    (he : ∀ i, i < n → ∀ H1, Ex (del H b) H1 → BagAt H1 b → EvD b te ((wipe σ vs).set j (some (nV i))) H1 (fun v H' => R H' v i ∧ ∀ a, v = .ref a → H1 a = none)) :
    EvD b (tLc (iRng1 tl) (gName j) tYes te vs) σ H (fun v H' => ∃ l ws, v = .ref l ∧ l ≠ b ∧ H' l = some (.lst ws) ∧ ws.length = n ∧ ∀ (i : Nat) v, ws[i]? = some v → R H' v i ∧ ∀ a, v = .ref a → a ≠ b) := fun H0 e0 hb0 Q q => h H0 e0 _ fun H1 e1 => ⟨(n : Int), rfl, by omega, by omega, fun Dl hD => by
  have hb1 := hb0.mono e1
  have Db : Dl ≠ b := bag_ne hb1 hD
  refine lc_range (lo := 0) (n := ((n : Nat) : Int).toNat) (fun i H' => Ex (del H1 b) H' ∧ BagAt H' b ∧ ∃ ws : List V, H' Dl = some (.lst ws) ∧ ws.length = i ∧ ∀ (i : Nat) v, ws[i]? = some v → R H' v i ∧ ∀ a, v = .ref a → a ≠ b ∧ a ≠ Dl)
    ⟨del_ex.trans (Ex.new hD), hb1.mono (Ex.new hD), [], upd_same, rfl, fun i v z => by simp at z⟩ (fun i H' hi ⟨e2, hb2, ws, h1, h2, h3⟩ => ?_) fun H' ⟨e2, hb2, ws, h1, h2, h3⟩ => ?_
  · rw [Int.toNat_natCast] at hi
    have e3 : Ex (del H b) H' := (ex_del2 (e0.trans e1)).trans e2
    have ez : (0 : Int) + (i : Int) = (i : Int) := Int.zero_add _
    show wipe ((wipe σ vs).set j (some (.int ((0 : Int) + (i : Int))))) vs = wipe σ vs ∧ te ((wipe σ vs).set j (some (.int ((0 : Int) + (i : Int))))) H' _
    rw [ez]
    refine ⟨hw _, he i hi H' e3 hb2 H' del_ex hb2 _ fun v H4 e4 hb4 hv => ?_⟩
    obtain ⟨hR, fr⟩ := hv
    have hD4 := e4 _ _ (del_put h1 Db)
    refine ⟨ws, hD4, sz_lt (by omega), ((ex_del2 e2).trans e4).mut (by rw [del_ne Db]; exact hD), ?_, ws ++ [v], upd_same, by rw [List.length_append, h2]; rfl, fun m v' hv' => ?_⟩
    · obtain ⟨c, t, hb4⟩ := hb4
      exact ⟨c, t, by rw [upd_ne Db.symm]; exact hb4⟩
    · by_cases c : m < ws.length
      · rw [List.getElem?_append_left c] at hv'
        obtain ⟨q1, q2⟩ := h3 m v' hv'
        refine ⟨stab _ _ v' m (fun a o ha ho => ?_) q1, q2⟩
        obtain ⟨z1, z2⟩ := q2 a ha
        rw [upd_ne z2]
        exact e4 _ _ (del_put ho z1)
      · rw [List.getElem?_append_right (by omega)] at hv'
        have hm : m = ws.length := by
          have := (List.getElem?_eq_some_iff.mp hv').1
          simp at this
          omega
        rw [hm, Nat.sub_self] at hv'
        have ev : v = v' := Option.some.inj hv'
        subst ev
        rw [hm, h2]
        have ad : ∀ a, v = .ref a → a ≠ Dl := fun a ha => (ne_of_none h1 (fr a ha)).symm
        refine ⟨stab _ _ v i (fun a o ha ho => ?_) hR, fun a ha => ⟨bag_ne hb2 (fr a ha), ad a ha⟩⟩
        rw [upd_ne (ad a ha)]
        exact ho
  · rw [Int.toNat_natCast] at h2
    exact q (.ref Dl) H' ((ex_del e1).trans e2) hb2 ⟨Dl, ws, rfl, Db, h1, h2, fun i v hv => ⟨(h3 i v hv).1, fun a ha => ((h3 i v hv).2 a ha).1⟩⟩⟩
theorem evd_opI {g : Int → Int → V} {x : Int} {n : Nat} (ha : Ev ta σ (del H b) (.int x)) (h : EvD b tb σ H (fun v _ => ∃ d : Nat, d < n ∧ v = nV d)) : EvD b (tOp (rI0 g) ta tb) σ H (fun v _ => ∃ d : Nat, d < n ∧ v = g x d) := fun H1 e hb Q q =>
  ha H1 e _ fun H2 e2 => h H2 (e.trans e2) (hb.mono e2) _ fun v H3 e3 hb3 ⟨d, hd, ev⟩ => by
    subst ev
    exact ⟨x, d, rfl, rfl, q _ H3 ((ex_del e2).trans e3) hb3 ⟨d, hd, rfl⟩⟩
theorem evd_ixL {xs : List V} {n : Nat} (ha : EvL ta σ (del H b) xs) (h : EvD b tb σ H (fun v _ => ∃ d : Nat, d < n ∧ v = nV d)) (hn : n ≤ xs.length) : EvD b (tOp (rIxL K) ta tb) σ H (fun v _ => v ∈ xs) := fun H1 e hb Q q =>
  ha H1 e _ fun l H2 nl e2 hl => h H2 (e.trans e2) (hb.mono e2) _ fun v H3 e3 hb3 ⟨d, hd, ev⟩ => by
    subst ev
    have hd' : d < xs.length := by omega
    exact ⟨l, xs, (d : Int), xs[d], rfl, rfl, sq_of (e3 _ _ (del_put hl (bag_ne hb nl))), atI_nat (List.getElem?_eq_getElem hd'), q _ H3 ((ex_del e2).trans e3) hb3 (List.getElem_mem hd')⟩
theorem evd_ofL {xs : List V} (h : EvL te σ (del H b) xs) : EvD b te σ H (fun v H' => ∃ l, v = .ref l ∧ H l = none ∧ H' l = some (.lst xs)) := fun H1 e hb Q q =>
  h H1 e _ fun l H2 nl e2 hl => q _ H2 (del_ex.trans e2) (hb.mono e2) ⟨l, rfl, none_of (fresh_back e nl) (bag_ne hb nl), hl⟩
theorem evd_call1 {sp : Sp} {E : XK} (h : EvD b te σ H Po) (hs : ∀ v H1, Ex (del H b) H1 → BagAt H1 b → Po v H1 → ∀ Q : VK, (∀ v' H2, Ex (del H1 b) H2 → BagAt H2 b → Po' v' H2 → Q v' H2) → sp [v] H1 Q E) : EvD b (tCall sp [] E (tCons te tNil)) σ H Po' := fun H1 e hb Q q =>
  h H1 e hb _ fun v H2 e2 hb2 hv => hs v H2 ((ex_del2 e).trans e2) hb2 hv Q fun v' H3 e3 hb3 hv' => q v' H3 ((ex_del2 e2).trans e3) hb3 hv'
theorem s_retD {Q : VK} (hD : D.rt = Q) (h : EvD b te σ H Po) (hb : BagAt H b) (k : ∀ v H1, Ex (del H b) H1 → BagAt H1 b → Po v H1 → Q v H1) : tRet te D σ H := h H del_ex hb _ fun v H1 e hb1 p => hD ▸ k v H1 e hb1 p
theorem ev_min2 {i j : Int} (ha : Ev ta σ H (.int i)) (hb : Ev tb σ H (.int j)) : Ev (tCB (fun xs H Q => ∃ i j, xs = [.int i, .int j] ∧ Q (.int (if j < i then j else i)) H) (tCons ta (tCons tb tNil))) σ H (.int (if j < i then j else i)) := fun H1 e Q q =>
  ha H1 e _ fun H2 e2 => hb H2 (e.trans e2) _ fun H3 e3 => ⟨i, j, rfl, q H3 (e2.trans e3)⟩
end
theorem of_nats : ∀ {ws : List V} {Pi : Nat → Nat → Prop}, (∀ (i : Nat) v, ws[i]? = some v → ∃ x, v = nV x ∧ Pi i x) → ∃ as : List Nat, ws = as.map nV ∧ ∀ i x, as[i]? = some x → Pi i x
  | [], Pi, _ => ⟨[], rfl, fun i x z => by simp at z⟩
  | v :: ws, Pi, h => by
    obtain ⟨x, rfl, hx⟩ := h 0 v rfl
    obtain ⟨as, rfl, ha⟩ := of_nats (ws := ws) (Pi := fun i => Pi (i + 1)) fun i v hv => h (i + 1) v (by simpa using hv)
    refine ⟨x :: as, rfl, fun i y hy => ?_⟩
    cases i with
    | zero =>
      have e : x = y := Option.some.inj hy
      rw [← e]
      exact hx
    | succ i => exact ha i y (by simpa using hy)
theorem of_rows {k : Nat} {H : Hp} {b : Addr} : ∀ {ws : List V}, (∀ (i : Nat) v, ws[i]? = some v → ∃ (a : Addr) (row : List Nat), v = .ref a ∧ a ≠ b ∧ H a = some (.lst (row.map nV)) ∧ row.Perm (List.range k)) →
    ∃ (as : List Addr) (p : Plan), ws = as.map V.ref ∧ Paired (fun a row => (del H b) a = some (.lst (row.map nV))) as p ∧ ∀ row ∈ p, row.Perm (List.range k)
  | [], _ => ⟨[], [], rfl, .nil, fun _ z => nomatch z⟩
  | v :: ws, h => by
    obtain ⟨a, row, rfl, nb, ha, hp⟩ := h 0 v rfl
    obtain ⟨as, p, rfl, h1, h2⟩ := of_rows (ws := ws) fun i v hv => h (i + 1) v (by simpa using hv)
    refine ⟨a :: as, row :: p, rfl, .cons (del_put ha nb) h1, fun r hr => ?_⟩
    rcases List.mem_cons.mp hr with z | z
    · rw [z]
      exact hp
    · exact h2 r z
def sp_law_some_rule : Sp := fun vs H Q _ => ∃ (b : Addr) (k : Nat), vs = [.ref b, nV k] ∧ 2 ≤ k ∧ k ≤ 5 ∧ BagAt H b ∧ ∀ r p H', Ex (del H b) H' → BagAt H' b → RuleAt (del H' b) r p → RuleOk p → p.length = k → Q (.ref r) H'
def AimP (k : Nat) (H : Hp) (v : V) (i : Nat) : Prop := ∃ x : Nat, v = nV x ∧ i ≤ x ∧ x < k
def RowP (k : Nat) (H : Hp) (v : V) (i : Nat) : Prop := ∃ (a : Addr) (row : List Nat), v = .ref a ∧ H a = some (.lst (row.map nV)) ∧ row.Perm (List.range k)
theorem ok_law_some_rule (T : Tx K mg) : FnOk P w K mg base CX0 3 T.a_law_some_rule T.d_law_some_rule ["_law_bag_here", "_law_k"] sp_law_some_rule := by
  refine T.h_law_some_rule.F.ok sc_law_some_rule (fun vs H Q E h => ?_) (fun cdv A outer s H vs Q E hr h => ?_)
  · obtain ⟨b, k, rfl, _⟩ := h
    rfl
  · obtain ⟨b, n, rfl, h2, h5, hb, k⟩ := h
    refine ⟨_, (pss_cons (ps_set (i := 2) sc_law_some_rule.nd rfl (.inl rfl) (pe_call (ok_law_draw T) (hr.mono (by decide)) (by rfl) T.h_law_draw.g T.h_law_draw.kp T.h_law_draw.b .nil pass0 (pa_cons (pv 0) (pa_cons pe_int pa_nil))))
      (pss_cons (ps_if (pt_cmpR op_eq (pv 2) pe_int (nomark _))
      (pss_one (ps_ret (pe_call (ok_law_lifted T) (hr.mono (by decide)) (by rfl) T.h_law_lifted.g T.h_law_lifted.kp T.h_law_lifted.b .nil pass0 (pa_cons (pe_lc (own := [("_law_i", 4)]) (g := gName 4) (tt := tYes) rfl sc_law_some_rule.nd (pi_range1 rfl T.z_range (pa_cons (pv 1) pa_nil)) (blkOk_by (own := [("_law_i", 4)]) (N := ["_law_bag_here", "_law_k", "_law_kind", "_law_same", "_law_i"]) (sc := defScope s_law_some_rule) (by decide +kernel)) (fun _ _ _ _ _ => pg_name (i := 4) sc_law_some_rule.nd rfl (.inl rfl)) (fun _ _ _ _ _ => pts_nil) (fun _ _ _ _ _ => (pe_op op_add (pv 4) (pe_call (ok_law_draw T) (hr.mono (by decide)) (by rfl) T.h_law_draw.g T.h_law_draw.kp T.h_law_draw.b .nil pass0 (pa_cons (pv 0) (pa_cons (pe_op op_sub (pv 1) (pv 4)) pa_nil)))))) pa_nil))))
      pss_nil)
      (pss_cons (ps_if (pt_cmpR op_eq (pv 2) pe_int (nomark _))
      (pss_one (ps_ret (pe_call (ok_law_lifted T) (hr.mono (by decide)) (by rfl) T.h_law_lifted.g T.h_law_lifted.kp T.h_law_lifted.b .nil pass0 (pa_cons (pe_lc (own := [("_law_i", 4)]) (g := gName 4) (tt := tYes) rfl sc_law_some_rule.nd (pi_range1 rfl T.z_range (pa_cons (pv 1) pa_nil)) (blkOk_by (own := [("_law_i", 4)]) (N := ["_law_bag_here", "_law_k", "_law_kind", "_law_same", "_law_i"]) (sc := defScope s_law_some_rule) (by decide +kernel)) (fun _ _ _ _ _ => pg_name (i := 4) sc_law_some_rule.nd rfl (.inl rfl)) (fun _ _ _ _ _ => pts_nil) (fun _ _ _ _ _ => (pe_ix (ix_listK (K := K) rfl) (pe_lst (pa_cons (pv 4) (pa_cons (pe_op op_sub (pv 1) pe_int) (pa_cons (pe_callB (call_min2 rfl) (by rfl) T.z_min (by decide +kernel) (pa_cons (pe_op op_add (pv 4) pe_int) (pa_cons (pe_op op_sub (pv 1) pe_int) pa_nil))) pa_nil)))) (pe_call (ok_law_draw T) (hr.mono (by decide)) (by rfl) T.h_law_draw.g T.h_law_draw.kp T.h_law_draw.b .nil pass0 (pa_cons (pv 0) (pa_cons pe_int pa_nil))) (fun _ _ => rfl)))) pa_nil))))
      pss_nil)
      (pss_cons (ps_if (pt_cmpR op_eq (pv 2) pe_int (nomark _))
      (pss_cons (ps_set (i := 3) sc_law_some_rule.nd rfl (.inr rfl) (pe_call (ok_law_shuffle T) (hr.mono (by decide)) (by rfl) T.h_law_shuffle.g T.h_law_shuffle.kp T.h_law_shuffle.b .nil pass0 (pa_cons (pv 0) (pa_cons (pv 1) pa_nil))))
      (pss_one (ps_ret (pe_lc (own := [("_law_i", 4)]) (g := gName 4) (tt := tYes) rfl sc_law_some_rule.nd (pi_range1 rfl T.z_range (pa_cons (pv 1) pa_nil)) (blkOk_by (own := [("_law_i", 4)]) (N := ["_law_bag_here", "_law_k", "_law_kind", "_law_same", "_law_i"]) (sc := defScope s_law_some_rule) (by decide +kernel)) (fun _ _ _ _ _ => pg_name (i := 4) sc_law_some_rule.nd rfl (.inl rfl)) (fun _ _ _ _ _ => pts_nil) (fun _ _ _ _ _ => (pe_callTy (call_list_ofK (K := K) rfl) (by rfl) T.z_list (by decide +kernel) (pa_cons (pv 3) pa_nil)))))))
      pss_nil)
      (pss_one (ps_ret (pe_lc (own := [("_law_i", 4)]) (g := gName 4) (tt := tYes) rfl sc_law_some_rule.nd (pi_range1 rfl T.z_range (pa_cons (pv 1) pa_nil)) (blkOk_by (own := [("_law_i", 4)]) (N := ["_law_bag_here", "_law_k", "_law_kind", "_law_same", "_law_i"]) (sc := defScope s_law_some_rule) (by decide +kernel)) (fun _ _ _ _ _ => pg_name (i := 4) sc_law_some_rule.nd rfl (.inl rfl)) (fun _ _ _ _ _ => pts_nil) (fun _ _ _ _ _ => (pe_call (ok_law_shuffle T) (hr.mono (by decide)) (by rfl) T.h_law_shuffle.g T.h_law_shuffle.kp T.h_law_shuffle.b .nil pass0 (pa_cons (pv 0) (pa_cons (pv 1) pa_nil))))))))))), ?_⟩
    have lift : ∀ H1 v, Ex (del H b) H1 → BagAt H1 b → (∃ l ws, v = .ref l ∧ l ≠ b ∧ H1 l = some (.lst ws) ∧ ws.length = n ∧ ∀ (i : Nat) v, ws[i]? = some v → AimP n H1 v i ∧ ∀ a, v = .ref a → a ≠ b) → ∀ Q' : VK, (∀ v' H2, Ex (del H1 b) H2 → BagAt H2 b → (∃ r p, v' = .ref r ∧ RuleAt (del H2 b) r p ∧ RuleOk p ∧ p.length = n) → Q' v' H2) → ∀ E, sp_law_lifted [v] H1 Q' E := by
      rintro H1 v e1 hb1 ⟨l, ws, rfl, lb, hl, hlen, hws⟩ Q' q' E
      obtain ⟨as, rfl, has⟩ := of_nats (Pi := fun i x => i ≤ x ∧ x < n) fun i v hv => (hws i v hv).1
      rw [List.length_map] at hlen
      refine ⟨l, as, rfl, hl, by omega, fun v H2 e2 hv => ?_⟩
      obtain ⟨r, rfl, hN⟩ := hv
      have hll : (lifted as).length = n := by
        unfold lifted
        rw [List.length_map, List.length_range, hlen]
      refine q' _ H2 (del_ex.trans e2) (hb1.mono e2) ⟨r, lifted as, rfl, hN.at ?_, lifted_ok (by omega) (by omega) fun i hi => ?_, hll⟩
      · obtain ⟨c, t, z⟩ := hb1
        rw [z]
        exact fun z => nomatch z
      · have := has i (as.getD i 0) (by rw [getD_of hi, List.getElem?_eq_getElem hi])
        omega
    have out : ∀ H1 v H2, Ex (del H b) H1 → Ex (del H1 b) H2 → BagAt H2 b → (∃ r p, v = .ref r ∧ RuleAt (del H2 b) r p ∧ RuleOk p ∧ p.length = n) → Q v H2 := by
      rintro H1 v H2 e1 e2 hb2 ⟨r, p, rfl, q1, q2, q3⟩
      exact k r p H2 ((ex_del2 e1).trans e2) hb2 q1 q2 q3
    have rows : ∀ H1 v H2, Ex (del H b) H1 → Ex (del H1 b) H2 → BagAt H2 b → (∃ l ws, v = .ref l ∧ l ≠ b ∧ H2 l = some (.lst ws) ∧ ws.length = n ∧ ∀ (i : Nat) v, ws[i]? = some v → RowP n H2 v i ∧ ∀ a, v = .ref a → a ≠ b) → Q v H2 := by
      rintro H1 v H2 e1 e2 hb2 ⟨l, ws, rfl, lb, hl, hlen, hws⟩
      obtain ⟨as, p, rfl, hp, hper⟩ := of_rows (k := n) (H := H2) (b := b) fun i v hv => by
        obtain ⟨⟨a, row, q1, q2, q3⟩, q4⟩ := hws i v hv
        exact ⟨a, row, q1, q4 a q1, q2, q3⟩
      rw [List.length_map, paired_len hp] at hlen
      exact out H1 _ H2 e1 e2 hb2 ⟨l, p, rfl, ⟨as, del_put hl lb, hp⟩, ⟨by omega, by omega, by rw [hlen]; exact hper⟩, hlen⟩
    have stA : ∀ H H' v i, (∀ a o, v = V.ref a → H a = some o → H' a = some o) → AimP n H v i → AimP n H' v i := fun _ _ _ _ _ h => h
    have stR : ∀ H H' v i, (∀ a o, v = V.ref a → H a = some o → H' a = some o) → RowP n H v i → RowP n H' v i := by
      rintro H H' v i st ⟨a, row, q1, q2, q3⟩
      exact ⟨a, row, q1, st a _ q1 q2, q3⟩
    refine q_asgD (evd_draw (n := 5) (ea_cons (ev_var rfl) (ea_cons ev_c ea_nil)) (by decide) (by decide)) hb fun v H1 e1 hb1 hv => ?_
    obtain ⟨d, hd, rfl⟩ := hv
    refine q_when (b := decide (nV d = V.int 0)) (et_test (ev_op (ev_var rfl) ev_c (rv_eq rfl))) (fun _ H2 e2 => ?_) fun _ H2 e2 => ?_
    · refine s_retD rfl (evd_call1 (evd_lcR (R := AimP n) stA (ea_cons (ev_var rfl) ea_nil) (by omega) (fun _ => rfl) fun i hi H3 e3 hb3 => evd_imp (evd_opI (n := n - i) (ev_var rfl) (evd_draw (ea_cons (ev_var rfl) (ea_cons (ev_is (ev_op (ev_var rfl) (ev_var rfl) rv_I0) ?_) ea_nil)) (by omega) (by omega))) fun v H' hv => ?_)
        fun v H3 e3 hb3 hv Q' q' => lift H3 v ((ex_del2 (e1.trans e2)).trans e3) hb3 hv Q' q' _) (hb1.mono e2) fun v H3 e3 hb3 hv => out H2 v H3 (e1.trans e2) e3 hb3 hv
      · show V.int ((n : Int) - (i : Int)) = V.int ((n - i : Nat) : Int)
        congr 1
        omega
      · obtain ⟨d, hd, rfl⟩ := hv
        exact ⟨⟨i + d, rfl, by omega, by omega⟩, fun a z => nomatch z⟩
    have e12 := e1.trans e2
    have hb2 := hb1.mono e2
    refine q_when (b := decide (nV d = V.int 1)) (et_test (ev_op (ev_var rfl) ev_c (rv_eq rfl))) (fun _ H3 e3 => ?_) fun _ H3 e3 => ?_
    · refine s_retD rfl (evd_call1 (evd_lcR (R := AimP n) stA (ea_cons (ev_var rfl) ea_nil) (by omega) (fun _ => rfl) fun i hi H4 e4 hb4 => evd_imp (evd_ixL (n := 3) (xs := [nV i, .int ((n : Int) - 1), .int (if ((n : Int) - 1) < ((i : Int) + 1) then ((n : Int) - 1) else ((i : Int) + 1))]) (el_lst (ea_cons (ev_var rfl) (ea_cons (ev_op (ev_var rfl) ev_c rv_I0) (ea_cons (ev_min2 (ev_op (ev_var rfl) ev_c rv_I0) (ev_op (ev_var rfl) ev_c rv_I0)) ea_nil))) (by show 3 ≤ _; decide))
          (evd_draw (n := 3) (ea_cons (ev_var rfl) (ea_cons ev_c ea_nil)) (by decide) (by decide)) (by show 3 ≤ 3; decide)) fun v H' hv => ?_)
        fun v H4 e4 hb4 hv Q' q' => lift H4 v ((ex_del2 (e12.trans e3)).trans e4) hb4 hv Q' q' _) (hb2.mono e3) fun v H4 e4 hb4 hv => out H3 v H4 (e12.trans e3) e4 hb4 hv
      have mk : ∀ x : Nat, v = nV x → i ≤ x → x < n → AimP n H' v i ∧ ∀ a, v = .ref a → H4 a = none := fun x e1 e2 e3 => ⟨⟨x, e1, e2, e3⟩, fun a z => by rw [e1] at z; cases z⟩
      rcases List.mem_cons.mp hv with z | hv
      · exact mk i z (Nat.le_refl _) hi
      · rcases List.mem_cons.mp hv with z | hv
        · refine mk (n - 1) (z.trans ?_) (by omega) (by omega)
          show V.int ((n : Int) - 1) = V.int ((n - 1 : Nat) : Int)
          congr 1
          omega
        · have z := List.mem_singleton.mp hv
          by_cases c : (n : Int) - 1 < (i : Int) + 1
          · rw [if_pos c] at z
            refine mk (n - 1) (z.trans ?_) (by omega) (by omega)
            show V.int ((n : Int) - 1) = V.int ((n - 1 : Nat) : Int)
            congr 1
            omega
          · rw [if_neg c] at z
            exact mk (i + 1) z (by omega) (by omega)
    have e13 := e12.trans e3
    have hb3 := hb2.mono e3
    refine q_when (b := decide (nV d = V.int 2)) (et_test (ev_op (ev_var rfl) ev_c (rv_eq rfl))) (fun _ H4 e4 => ?_) fun _ H4 e4 => ?_
    · refine q_asgD (evd_shuffle (ea_cons (ev_var rfl) (ea_cons (ev_var rfl) ea_nil)) (by omega)) (hb3.mono e4) fun v H5 e5 hb5 hv => ?_
      obtain ⟨l, xs, rfl, nl, lb, hl, hper⟩ := hv
      have e15 := (ex_del2 (e13.trans e4)).trans e5
      refine s_retD rfl (evd_lcR (R := RowP n) stR (ea_cons (ev_var rfl) ea_nil) (by omega) (fun _ => rfl) fun i hi H6 e6 hb6 => evd_imp (evd_ofL (el_list (ev_var rfl) (sq_of (del_put (e6 _ _ (del_put hl lb)) lb)))) fun v H' hv => ?_) hb5 fun v H6 e6 hb6 hv => rows H5 v H6 e15 e6 hb6 hv
      obtain ⟨a, rfl, na, ha⟩ := hv
      exact ⟨⟨a, xs, rfl, ha, hper⟩, fun a' z => by cases z; exact na⟩
    · refine s_retD rfl (evd_lcR (R := RowP n) stR (ea_cons (ev_var rfl) ea_nil) (by omega) (fun _ => rfl) fun i hi H6 e6 hb6 => evd_imp (evd_shuffle (ea_cons (ev_var rfl) (ea_cons (ev_var rfl) ea_nil)) (by omega)) fun v H' hv => ?_) (hb3.mono e4) fun v H6 e6 hb6 hv => rows H4 v H6 (e13.trans e4) e6 hb6 hv
      obtain ⟨l, xs, rfl, nl, lb, hl, hper⟩ := hv
      exact ⟨⟨l, xs, rfl, hl, hper⟩, fun a' z => by cases z; exact nl⟩
end
end K78

/-! K78x4: _law_later, _law_forgets, _law_history_right. -/
namespace K78
open PySem PySem.Spec PyProof.Rows L2 Evl
local macro_rules | `(tactic| walk_at "sq") => `(tactic| first | exact sq_of (by assumption) | assumption)
local macro_rules | `(tactic| walk_at "at") => `(tactic| first | exact atI_nat (by assumption) | assumption)
local macro_rules | `(tactic| walk_at "side") => `(tactic| first | assumption | exact ⟨by decide, by decide⟩ | decide | omega)
local macro_rules | `(tactic| walk_at "rv") => `(tactic| first
  | exact rv_I0
  | exact rv_eq rfl
  | exact rv_ne rfl
  | (refine' rv_ixL ?h ?a; (case h => walk_at "sq"); (case a => walk_at "at"))
  | (refine' rv_I ?c; (case c => walk_at "side")))
local macro_rules | `(tactic| walk_at "ev") => `(tactic| first
  | exact ev_var rfl
  | exact ev_c
  | (refine' ev_isi ?a ?b (.ty _) ?c ?d; (case a => walk_at "ev"); (case b => walk_at "ev"); (case c => first | exact ty_int | exact ty_str | exact ty_lst (by assumption)); (case d => first | exact kit_ty k_ii | exact kit_ty k_ib | exact kit_ty k_si | exact kit_ty k_ll | exact kit_ty k_ss))
  | (refine' ev_op ?a ?b ?c; (case a => walk_at "ev"); (case b => walk_at "ev"); (case c => walk_at "rv"))
  | (refine' ev_un ?a ?b; (case a => walk_at "ev"); (case b => exact ru_neg))
  | (refine' ev_isN ?a; (case a => walk_at "ev"))
  | (refine' ev_notN ?a; (case a => walk_at "ev"))
  | (refine' ev_orV1 (ev_is ?a ?b); (case a => walk_at "ev"); (case b => decide))
  | (refine' ev_andV0 (ev_is ?a ?b); (case a => walk_at "ev"); (case b => decide))
  | (refine' ev_andV ?a ?b; (case a => walk_at "ev"); (case b => intro _; walk_at "ev"))
  | (refine' ev_orV ?a ?b; (case a => walk_at "ev"); (case b => intro _; walk_at "ev"))
  | (refine' ev_notV ?a; (case a => walk_at "ev"))
  | (refine' ev_len ?a ?b; (case a => walk_at "ev"); (case b => walk_at "sq"))
  | (refine' ev_chain ?a ?b ?c ?d ?e; (case a => walk_at "ev"); (case b => walk_at "ev"); (case c => walk_at "rv"); (case d => intro _; walk_at "ev"); (case e => intro _; walk_at "rv")))
local macro_rules | `(tactic| walk_at "et") => `(tactic| first
  | (refine' et_test ?a; (case a => walk_at "ev"))
  | (refine' et_B ?a; (case a => walk_at "ev"))
  | (refine' et_not ?a; (case a => walk_at "et"))
  | (refine' et_or1 (et_is ?a ?b); (case a => walk_at "et"); (case b => decide))
  | (refine' et_and0 (et_is ?a ?b); (case a => walk_at "et"); (case b => decide))
  | (refine' et_and ?a ?b; (case a => walk_at "et"); (case b => intro _; walk_at "et"))
  | (refine' et_or ?a ?b; (case a => walk_at "et"); (case b => intro _; walk_at "et")))
section
variable {P : Program} {w : World} {K : PySem.W.Frag} {mg : Str → Option Value} {base : Heap}
def mskP (H : Hp) (a : Addr) (m : Nat) : Prop := H a = some (.lst ((placesL m).map nV))
def sp_law_later : Sp := fun vs H Q _ => ∃ (r : Addr) (p : Plan) (a : Addr) (m : Nat) (c : Option Nat), vs = [.ref r, .ref a, oV c] ∧ RuleAt H r p ∧ RuleOk p ∧ Msk p m ∧ mskP H a m ∧ (∀ x, c = some x → x < p.length) ∧
  (c ∉ moves m → RetV .non H Q) ∧ (c ∈ moves m → RetL ((placesL (mb p m c)).map nV) H Q)
theorem places_le (m : Nat) : (placesL m).Pairwise (· ≤ ·) := (placesL_sorted m).imp fun h => Nat.le_of_lt h
theorem places_len (m : Nat) : (placesL m).length ≤ 5 := Nat.le_trans (List.length_filter_le _ _) (by rw [List.length_range]; exact Nat.le_refl 5)
theorem ok_law_later (T : Tx K mg) : FnOk P w K mg base CX0 1 T.a_law_later T.d_law_later ["_law_plan", "_law_spots", "_law_call"] sp_law_later := by
  refine T.h_law_later.F.ok sc_law_later (fun vs H Q E h => ?_) (fun cdv A outer s H vs Q E hr h => ?_)
  · obtain ⟨r, p, a, m, c, rfl, _⟩ := h
    rfl
  · obtain ⟨r, p, a, m, c, rfl, hR, ok, hm, ha, hc, k1, k2⟩ := h
    refine ⟨_, (pss_cons (ps_if (pt_cmp (pc_isN (pv 2)))
      (pss_one (ps_ret (pe_callB cr_sorted (by rfl) T.z_sorted (by decide +kernel) (pa_cons (pe_lc (own := [("_law_spot", 3)]) (g := gName 3) rfl sc_law_later.nd (pi_list (pv 1)) (blkOk_by (own := [("_law_spot", 3)]) (N := ["_law_plan", "_law_spots", "_law_call", "_law_spot"]) (sc := defScope s_law_later) (by decide +kernel)) (fun _ _ _ _ _ => pg_name (i := 3) sc_law_later.nd rfl (.inl rfl)) (fun _ _ _ _ _ => pts_one (pt_cmpR op_gt (pv 3) pe_int (nomark _))) (fun _ _ _ _ _ => (pe_op op_sub (pv 3) pe_int))) pa_nil))))
      pss_nil)
      (pss_cons (ps_if (pt_cmpR (op_notIn_seqK (K := K) rfl) (pv 2) (pv 1) (by rfl))
      (pss_one (ps_ret pe_non))
      pss_nil)
      (pss_one (ps_ret (pe_callB cr_sorted (by rfl) T.z_sorted (by decide +kernel) (pa_cons (pe_lc (own := [("_law_spot", 3)]) (g := gName 3) rfl sc_law_later.nd (pi_list (pv 1)) (blkOk_by (own := [("_law_spot", 3)]) (N := ["_law_plan", "_law_spots", "_law_call", "_law_spot"]) (sc := defScope s_law_later) (by decide +kernel)) (fun _ _ _ _ _ => pg_name (i := 3) sc_law_later.nd rfl (.inl rfl)) (fun _ _ _ _ _ => pts_one (pt_cmpR op_ne (pv 3) (pv 2) (nomark _))) (fun _ _ _ _ _ => (pe_ix (ix_listK (K := K) rfl) (pe_ix (ix_listK (K := K) rfl) (pv 0) (pv 2) (fun _ _ => rfl)) (pv 3) (fun _ _ => rfl)))) pa_nil)))))), ?_⟩
    have ha' : H a = some (.lst ((placesL m).map nV)) := ha
    have hpl := places_len m
    cases c with
    | none =>
      refine q_when (b := true) (et_is (et_B (ev_isN (ev_var rfl))) (by rfl)) (fun _ H1 e1 => ?_) fun z => Bool.noConfusion z
      have hmiss : missL (placesL m) = placesL (mb p m none) := miss_eq (hm.lt ok)
      refine s_retL (el_sortedN (l := missL (placesL m)) (l' := placesL (mb p m none)) (el_is (el_lcF nV (fun x => nV (x - 1)) (fun x => decide (0 < x)) (ev_var rfl) (exu e1 ha') (by omega) (fun _ => rfl) (fun x hx H2 e2 => ?_) fun x hx H2 e2 hg => ?_) ?_) ?_ (by rw [hmiss]) (places_le _)) fun l H2 nl e2 hl => k2 (mem_moves.mpr (.inl rfl)) l H2 (fresh_back e1 nl) (e1.trans e2) hl
      · refine et_is (by walk_at "et") ?_
        exact decide_eq_decide.mpr (by show (0 : Int) < (x : Int) ↔ _; omega)
      · have := of_decide_eq_true hg
        refine ev_is (by walk_at "ev") ?_
        show V.int ((x : Int) - 1) = V.int ((x - 1 : Nat) : Int)
        congr 1
        omega
      · unfold missL
        rw [List.map_map]
        rfl
      · unfold missL
        rw [List.length_map]
        have := List.length_filter_le (fun x => decide (0 < x)) (placesL m)
        omega
    | some x =>
      have hx := hc x rfl
      refine q_ifno (et_is (et_B (ev_isN (ev_var rfl))) (by rfl)) fun H1 e1 => ?_
      have ha1 := exu e1 ha'
      by_cases hin : x ∈ placesL m
      · refine q_ifno (et_is (et_test (ev_op (ev_var rfl) (ev_var rfl) (rv_niL (sq_of ha1) rfl (flat_nat _)))) ?_) fun H2 e2 => ?_
        · have := inV_nat (x := x) (placesL m)
          rw [show oV (some x) = nV x from rfl, this, decide_eq_true hin]
          rfl
        have e12 := e1.trans e2
        refine s_retL (el_sortedN (l := hitL p (placesL m) x) (l' := placesL (mb p m (some x))) (el_is (el_lcF nV (fun y => nV (rg p x y)) (fun y => decide (y ≠ x)) (ev_var rfl) (exu e2 ha1) (by omega) (fun _ => rfl) (fun y hy H3 e3 => ?_) fun y hy H3 e3 hg => ?_) ?_) ?_ (perm_hit ok hm hx).symm (places_le _)) fun l H3 nl e3 hl => k2 (mem_moves.mpr (.inr ⟨x, hin, rfl⟩)) l H3 (fresh_back e12 nl) (e12.trans e3) hl
        · refine et_is (et_test (ev_op (ev_var rfl) (ev_var rfl) (rv_ne rfl))) ?_
          show (!decide (nV y = nV x)) = decide (y ≠ x)
          by_cases c : y = x
          · subst c
            simp
          · have : ¬ nV y = nV x := fun z => c (Int.ofNat.inj (V.int.inj z))
            rw [decide_eq_false this, decide_eq_true c]
            rfl
        · exact ev_rule ok (hR.mono (e12.trans e3)) (ev_var rfl) (ev_var rfl) (ev_var rfl) hx (hm.places ok y hy)
        · unfold hitL
          rw [List.map_map]
          rfl
        · unfold hitL
          rw [List.length_map]
          have := List.length_filter_le (fun y => decide (y ≠ x)) (placesL m)
          omega
      · have hnm : (some x) ∉ moves m := fun z => by
          rcases mem_moves.mp z with z | ⟨y, hy, z⟩
          · cases z
          · cases z
            exact hin hy
        refine q_when (b := true) (et_is (et_test (ev_op (ev_var rfl) (ev_var rfl) (rv_niL (sq_of ha1) rfl (flat_nat _)))) ?_) (fun _ H2 e2 => ?_) fun z => Bool.noConfusion z
        · have := inV_nat (x := x) (placesL m)
          rw [show oV (some x) = nV x from rfl, this, decide_eq_false hin]
          rfl
        · exact s_retV rfl ev_c fun H3 e3 => k1 hnm H3 ((e1.trans e2).trans e3)
theorem spl_later {H : Hp} {r a : Addr} {p : Plan} {m : Nat} {c : Option Nat} (hR : RuleAt H r p) (ok : RuleOk p) (hm : Msk p m) (ha : mskP H a m) (hc : c ∈ moves m) : SpL sp_law_later [.ref r, .ref a, oV c] H ((placesL (mb p m c)).map nV) :=
  fun H1 e Q k _ => ⟨r, p, a, m, c, rfl, hR.mono e, ok, hm, exu e ha, moves_lt ok hm hc, fun z => absurd hc z, fun _ => k⟩
theorem spv_later {H : Hp} {r a : Addr} {p : Plan} {m : Nat} {c : Option Nat} (hR : RuleAt H r p) (ok : RuleOk p) (hm : Msk p m) (ha : mskP H a m) (hcl : ∀ x, c = some x → x < p.length) (hc : c ∉ moves m) : SpV sp_law_later [.ref r, .ref a, oV c] H .non :=
  fun H1 e Q k _ => ⟨r, p, a, m, c, rfl, hR.mono e, ok, hm, exu e ha, hcl, fun _ => k, fun z => absurd z hc⟩
/-! ### lists of lists of places -/
section
variable {σ : L2.St} {H : Hp} {ta tb te : TE}
theorem el_cat {xs ys : List V} {b : Addr} (ha : EvL ta σ H xs) (hb : Ev tb σ H (.ref b)) (h : H b = some (.lst ys)) (hz : xs.length + ys.length ≤ 100000) : EvL (tOp rCat ta tb) σ H (xs ++ ys) := fun H1 e Q q =>
  ha H1 e _ fun l H2 nl e2 hl => hb H2 (e.trans e2) _ fun H3 e3 => ⟨l, b, xs, ys, rfl, rfl, exu e3 hl, exu ((e.trans e2).trans e3) h, sz_of hz, fun p np => q p _ (fresh_back (e2.trans e3) np) ((e2.trans e3).trans (Ex.new np)) upd_same⟩
theorem el_cat2 {xs ys : List V} {a b : Addr} (ha : Ev ta σ H (.ref a)) (hb : Ev tb σ H (.ref b)) (h1 : H a = some (.lst xs)) (h : H b = some (.lst ys)) (hz : xs.length + ys.length ≤ 100000) : EvL (tOp rCat ta tb) σ H (xs ++ ys) := fun H1 e Q q =>
  ha H1 e _ fun H2 e2 => hb H2 (e.trans e2) _ fun H3 e3 => ⟨a, b, xs, ys, rfl, rfl, exu ((e.trans e2).trans e3) h1, exu ((e.trans e2).trans e3) h, sz_of hz, fun p np => q p _ (fresh_back (e2.trans e3) np) ((e2.trans e3).trans (Ex.new np)) upd_same⟩
theorem evp_ofL {xs : List V} (h : EvL te σ H xs) : EvP te σ H (fun v H' => ∃ l, v = .ref l ∧ H l = none ∧ H' l = some (.lst xs)) := fun H1 e Q q => h H1 e _ fun l H2 nl e2 hl => q _ H2 e2 ⟨l, rfl, fresh_back e nl, hl⟩
theorem q_parP {Po : V → Hp → Prop} {i j : Nat} {y : V} {D : Ends} {tz : TS} (h1 : EvP ta σ H Po) (h2 : ∀ H1, Ex H H1 → Ev tb σ H1 y) (k : ∀ v H1, Ex H H1 → (∃ H0, Po v H0 ∧ Ex H0 H1) → tz D ((σ.set i (some v)).set j (some y)) H1) : tSeq (tPar i j (tCons ta (tCons tb tNil))) tz D σ H :=
  h1 H (Ex.refl H) _ fun v H1 e p => h2 H1 e H1 (Ex.refl _) _ fun H2 e2 => ⟨v, y, rfl, k v H2 (e.trans e2) ⟨H1, p, e2⟩⟩
theorem s_forNLn {xs : List V} {tl : TE} {j : Nat} {D : Ends} {tu : TS} (h : EvL tl σ H xs) (Pv : Addr → Nat → L2.St → Hp → Prop) (h0 : ∀ p H1, H p = none → Ex H H1 → H1 p = some (.lst xs) → Pv p 0 σ H1) (hl : ∀ p i σ' H', i ≤ xs.length → Pv p i σ' H' → SqL K H' p xs)
    (hs : ∀ p i x σ' H', xs[i]? = some x → Pv p i σ' H' → tu { D with nx := Pv p (i + 1), ct := Pv p (i + 1), bk := D.nx } (σ'.set j (some x)) H') (hd : ∀ p σ' H', Pv p xs.length σ' H' → D.nx σ' H') : tFor (iList K tl) (gName j) tu D σ H := s_forNL h Pv h0 hl hs hd
def mD (m : Nat) : PyData := .list ((placesL m).map fun (n : Nat) => PyData.int n)
theorem dp_msks : ∀ {as : List Addr} {ms : List Nat}, Paired (mskP H) as ms → DpAll K H (as.map V.ref) (ms.map mD)
  | _, _, .nil => .nil
  | _, _, .cons r t => .cons (.lst (sq_of r) (dp_nats _)) (dp_msks t)
theorem lay_nats (l : List Nat) : PyData.canLayAll0 (l.map fun (n : Nat) => PyData.int n) = true := by
  rw [nats_ints]
  exact lay_ints _
theorem depth_nats (l : List Nat) : PyData.depthAll (l.map fun (n : Nat) => PyData.int n) ≤ 1 := by
  rw [nats_ints]
  exact depth_ints _
theorem lay_msks : ∀ ms : List Nat, PyData.canLayAll0 (ms.map mD) = true
  | [] => by simp [PyData.canLayAll0]
  | m :: ms => by simp [PyData.canLayAll0, PyData.canLay0, mD, lay_nats, lay_msks ms]
theorem depth_msks : ∀ ms : List Nat, PyData.depthAll (ms.map mD) ≤ 3
  | [] => by simp [PyData.depthAll]
  | m :: ms => by
    have h := depth_msks ms
    have h2 := depth_nats (placesL m)
    simp only [List.map_cons, PyData.depthAll, PyData.depth, mD]
    omega
theorem shaped_msks (ms : List Nat) : SeqAt.shaped (.list (ms.map mD)) = true := by
  have h := depth_msks ms
  refine shaped_of ?_ ?_
  · simp only [PyData.canLay0]
    exact lay_msks ms
  · simp only [PyData.depth]
    omega
theorem eqv_msks (ms : List Nat) : PyData.eqv (.list (ms.map mD)) (.list []) = decide (ms = []) := by
  rw [PyData.eqv]
  cases ms with
  | nil => simp [PyData.eqvAll]
  | cons m ms => simp [PyData.eqvAll]
theorem msks_mono {H H' : Hp} (e : Ex H H') {as : List Addr} {ms : List Nat} (h : Paired (mskP H) as ms) : Paired (mskP H') as ms := Paired.mapP h fun _ _ z => exu e z
theorem rv_neMsks {p q : Addr} {as : List Addr} {ms : List Nat} (h1 : H p = some (.lst (as.map V.ref))) (hp : Paired (mskP H) as ms) (h2 : H q = some (.lst [])) : RV (rNeD K) (.ref p) (.ref q) H (.bl (!decide (ms = []))) := fun H1 e _ k =>
  ⟨_, _, .lst (sq_of (exu e h1)) (dp_msks (msks_mono e hp)), .lst (sq_of (exu e h2)) .nil, shaped_msks ms, by simpa using shaped_msks [], by rw [eqv_msks]; exact k H1 (Ex.refl H1)⟩
theorem any_msks {m : Nat} (hm : m < 32) : ∀ {ms : List Nat}, (∀ x ∈ ms, x < 32) → ((ms.map mD).any fun z => PyData.eqv z (mD m)) = decide (m ∈ ms)
  | [], _ => by simp
  | x :: ms, h => by
    have ih := any_msks hm (ms := ms) fun y hy => h y (List.mem_cons_of_mem _ hy)
    have e : PyData.eqv (mD x) (mD m) = decide (m = x) := by
      refine (eqv_nats _ _).trans (decide_eq_decide.mpr ⟨fun z => (placesL_inj (h x List.mem_cons_self) hm z).symm, fun z => by rw [z]⟩)
    rw [List.map_cons, List.any_cons, ih, e]
    by_cases c : m = x
    · simp [c]
    · simp [c]
theorem rv_niMsks {p q : Addr} {as : List Addr} {ms : List Nat} {m : Nat} (hm : m < 32) (hms : ∀ x ∈ ms, x < 32) (h0 : mskP H p m) (h1 : H q = some (.lst (as.map V.ref))) (hp : Paired (mskP H) as ms) : RV (rNotInD K) (.ref p) (.ref q) H (.bl (!decide (m ∈ ms))) := fun H1 e _ k =>
  ⟨mD m, ms.map mD, .lst (sq_of (exu e h0)) (dp_nats _), .lst (sq_of (exu e h1)) (dp_msks (msks_mono e hp)), shaped_nats _, shaped_msks ms, by rw [any_msks hm hms]; exact k H1 (Ex.refl H1)⟩
end
theorem movesV (m : Nat) : [V.non] ++ (placesL m).map nV = (moves m).map oV := by
  unfold moves
  rw [List.map_cons, List.map_map]
  rfl
theorem moves_len (m : Nat) : (moves m).length ≤ 6 := by
  have := places_len m
  unfold moves
  rw [List.length_cons, List.length_map]
  omega
def sp_law_forgets : Sp := fun vs H Q _ => ∃ (r : Addr) (p : Plan), vs = [.ref r] ∧ RuleAt H r p ∧ RuleOk p ∧ RetV (nV (L p (full p) + 1)) H Q
theorem ok_law_forgets (T : Tx K mg) : FnOk P w K mg base CX0 2 T.a_law_forgets T.d_law_forgets ["_law_plan"] sp_law_forgets := by
  refine T.h_law_forgets.F.ok sc_law_forgets (fun vs H Q E h => ?_) (fun cdv A outer s H vs Q E hr h => ?_)
  · obtain ⟨r, p, rfl, _⟩ := h
    rfl
  · obtain ⟨r, p, rfl, hR, ok, k⟩ := h
    have hu65 : (A.deeper (envOfC (Str.ofString "_law_forgets") (defScope s_law_forgets) s.heap.objs.size T.a_law_forgets cdv)).units + 65 < cLine := by
      have := hr.un
      omega
    refine ⟨_, (pss_cons (ps_set (i := 1) sc_law_forgets.nd rfl (.inl rfl) (pe_callB (call_len_seqK (K := K) rfl) (by rfl) T.z_len PySem.boot_len (pa_cons (pv 0) pa_nil)))
      (pss_cons (ps_par (i := 2) (j := 3) (by rfl) sc_law_forgets.nd rfl rfl (by decide) rfl rfl (pa_cons (pe_lst (pa_cons (pe_listRg rfl rfl T.z_list (prg_1 rfl T.z_range (pv 1))) pa_nil)) (pa_cons pe_int pa_nil)) (by rfl))
      (pss_cons (ps_while PassesOwn.never (pt_cmpR (op_neD hr.units) (pv 2) (pe_lst pa_nil) (nomark _))
      (pss_cons (ps_set (i := 4) sc_law_forgets.nd rfl (.inl rfl) (pe_lst pa_nil))
      (pss_cons (ps_for PassesOwn.never rfl (pi_list (pv 2)) (pg_name (i := 5) sc_law_forgets.nd rfl (.inl rfl))
      (pss_one (ps_for PassesOwn.never rfl (pi_list (pe_op op_cat (pe_lst (pa_cons pe_non pa_nil)) (pv 5))) (pg_name (i := 6) sc_law_forgets.nd rfl (.inl rfl))
      (pss_cons (ps_set (i := 7) sc_law_forgets.nd rfl (.inl rfl) (pe_call (ok_law_later T) (hr.mono (by decide)) (by rfl) T.h_law_later.g T.h_law_later.kp T.h_law_later.b .nil pass0 (pa_cons (pv 0) (pa_cons (pv 5) (pa_cons (pv 6) pa_nil)))))
      (pss_one (ps_if (PW.pt (pw_and (pt_cmpR (op_neD hr.units) (pv 7) (pe_lst pa_nil) (nomark _)) (pw_and1 (pt_cmpR (op_notInD hu65) (pv 7) (pv 4) (by rfl)))))
      (pss_one (ps_expr (pe_bm PySem.F.plainAttrs_list PySem.F.slot_list_append PySem.F.type_list_append mt_append (pv 4) (pa_cons (pv 7) pa_nil))))
      pss_nil))))))
      (pss_cons (ps_set (i := 2) sc_law_forgets.nd rfl (.inl rfl) (pv 4))
      (pss_one (ps_aug (i := 3) sc_law_forgets.nd rfl (.inl rfl) pe_int ip_add))))))
      (pss_one (ps_ret (pv 3)))))), ?_⟩
    have h5 := ok.hi
    refine q_asg (len_rule hR (ev_var rfl)) fun H1 e1 => ?_
    refine q_parP (evp_lst1 (evp_ofL (el_listRg1 (k := p.length) (ev_var rfl) (by omega)))) (fun _ _ => ev_c) fun v H2 e2 hv => ?_
    obtain ⟨H0, ⟨ly, _, H00, rfl, _, ⟨l0, rfl, _, hl0⟩, nly, rfl⟩, e02⟩ := hv
    have e12 := e1.trans e2
    refine q_while (fun m σ' H' => ∃ ms as ly f y4 y5 y6 y7, ((ms = [] ∧ f = L p (full p) + 1 ∧ m = 0) ∨ ∃ r, Lay p ms r ∧ f + r = L p (full p) ∧ m = r + 1) ∧ σ' = [some (.ref r), some (nV p.length), some (.ref ly), some (nV f), y4, y5, y6, y7] ∧
      Ex H H' ∧ H' ly = some (.lst (as.map V.ref)) ∧ Paired (mskP H') as ms) (L p (full p) + 1) ⟨[full p], [l0], ly, 0, _, _, _, _, .inr ⟨_, lay_first ok, Nat.zero_add _, rfl⟩, rfl, e12, exu e02 upd_same, .cons ?_ .nil⟩ ?_
    · show H2 l0 = _
      rw [full_places ok]
      exact exu e02 (by rw [upd_ne (ne_of_none hl0 nly)]; exact hl0)
    rintro m σ' H3 ⟨ms, as, ly, f, y4, y5, y6, y7, hcase, rfl, e3, hly, hms⟩
    refine ⟨!decide (ms = []), et_test (ev_opL (ev_var rfl) (el_lst ea_nil (Nat.zero_le _)) fun q H4 hq e => rv_neMsks (exu e hly) (msks_mono e hms) hq), fun hb H4 e4 => ⟨_, fun σ2 H2 h => h, ?_⟩, fun hb H4 e4 => ?_⟩
    rotate_left
    · have hz : ms = [] := by simpa using hb
      rcases hcase with ⟨_, hf, _⟩ | ⟨r', hL, _⟩
      · rw [hf]
        exact s_retV rfl (ev_var rfl) fun H5 e5 => k H5 ((e3.trans e4).trans e5)
      · obtain ⟨x, hx, _⟩ := hL.at'
        rw [hz] at hx
        cases hx
    have hz : ms ≠ [] := by simpa using hb
    rcases hcase with ⟨z, _⟩ | ⟨r', hL, hf, hm⟩
    · exact absurd z hz
    have e04 := e3.trans e4
    have hly4 := exu e4 hly
    have hms4 := msks_mono e4 hms
    refine q_asgL (el_lst ea_nil (Nat.zero_le _)) fun lh H5 nlh e5 hlh => ?_
    have accOk : ∀ ms' : List Nat, (∀ x ∈ ms', x ∈ ms) → ∀ acc : List Nat, (∀ y ∈ acc, ∃ m ∈ ms', ∃ c ∈ moves m, y = mb p m c ∧ y ≠ 0) → ∀ m ∈ acc, Msk p m ∧ m ≠ 0 := fun ms' sub acc h m hm' => by
      obtain ⟨x, hx, c, hc, rfl, h0⟩ := h m hm'
      obtain ⟨q, _⟩ := hL.ok x (sub x hx)
      exact ⟨mb_msk ok q c (moves_lt ok q hc), h0⟩
    refine q_forLn (ev_var rfl) (sq_of (exu e5 hly4)) (fun i σ' H' => ∃ bs y5 y6 y7, σ' = [some (.ref r), some (nV p.length), some (.ref ly), some (nV f), some (.ref lh), y5, y6, y7] ∧ Ex H4 H' ∧ H' lh = some (.lst (bs.map V.ref)) ∧ (∀ a ∈ bs, a ≠ lh) ∧ Paired (mskP H') bs (lay p (ms.take i) []))
      (fun H6 e6 => ⟨[], y5, y6, y7, rfl, e5.trans e6, exu e6 hlh, (fun _ z => nomatch z), .nil⟩) (fun i σ' H' _ ⟨_, _, _, _, _, e, _⟩ => sq_of (exu e hly4)) ?_ ?_
    · rintro i x σ' H6 hx ⟨bs, z5, z6, z7, rfl, e6, hlh6, nbs, hbs⟩
      have hil : i < ms.length := by
        have := (List.getElem?_eq_some_iff.mp hx).1
        rw [List.length_map, paired_len hms4] at this
        exact this
      obtain ⟨a, ha, hma⟩ := paired_get hms4 (List.getElem?_eq_getElem hil)
      obtain ⟨m', hm'⟩ : ∃ s, ms[i] = s := ⟨_, rfl⟩
      rw [hm'] at hma
      have hh : ms[i]? = some m' := by rw [List.getElem?_eq_getElem hil, hm']
      rw [List.getElem?_map, ha] at hx
      cases hx
      have hmem : m' ∈ ms := List.mem_of_getElem? hh
      obtain ⟨hMsk, _⟩ := hL.ok m' hmem
      have hma6 : H6 a = some (.lst ((placesL m').map nV)) := exu e6 hma
      have hR6 := hR.mono (e04.trans e6)
      have etake := take_snoc hh
      have elay : lay p (ms.take (i + 1)) [] = layC p m' (lay p (ms.take i) []) (moves m') := by
        rw [etake]
        unfold lay
        rw [List.foldl_append]
        rfl
      refine s_forNLn (el_is (el_cat (xs := [.non]) (el_lst (ea_cons ev_c ea_nil) (by show 1 ≤ _; decide)) (ev_var rfl) hma6 (by have := places_len m'; rw [List.length_map]; show 1 + _ ≤ _; omega)) (movesV m'))
        (fun q j σ' H' => ∃ bs y6 y7, σ' = [some (.ref r), some (nV p.length), some (.ref ly), some (nV f), some (.ref lh), some (.ref a), y6, y7] ∧ q ≠ lh ∧ H' q = some (.lst ((moves m').map oV)) ∧ Ex H4 H' ∧ H' lh = some (.lst (bs.map V.ref)) ∧ (∀ a ∈ bs, a ≠ lh) ∧ Paired (mskP H') bs (layC p m' (lay p (ms.take i) []) ((moves m').take j)))
        (fun q H7 nq e7 hq => ⟨bs, z6, z7, rfl, (ne_of_none hlh6 nq).symm, hq, e6.trans e7, exu e7 hlh6, nbs, msks_mono e7 hbs⟩) (fun q j σ' H' _ ⟨_, _, _, _, _, z, _⟩ => sq_of z) ?_ ?_
      · rintro q j x σ' H7 hx ⟨bs, y6, y7, rfl, qlh, hq7, e7, hlh7, nbs, hbs⟩
        rw [List.getElem?_map] at hx
        obtain ⟨c, hc, rfl⟩ := Option.map_eq_some_iff.mp hx
        have hcm : c ∈ moves m' := List.mem_of_getElem? hc
        have hM2 := mb_msk ok hMsk c (moves_lt ok hMsk hcm)
        have hma7 : mskP H7 a m' := exu e7 hma
        have estep : layC p m' (lay p (ms.take i) []) ((moves m').take (j + 1)) = addN (layC p m' (lay p (ms.take i) []) ((moves m').take j)) (mb p m' c) := by
          rw [take_snoc hc]
          unfold layC
          rw [List.foldl_append]
          rfl
        have hacc : ∀ x ∈ layC p m' (lay p (ms.take i) []) ((moves m').take j), Msk p x ∧ x ≠ 0 := by
          refine accOk (m' :: ms.take i) (fun x hx => ?_) _ fun y hy => ?_
          · rcases List.mem_cons.mp hx with z | z
            · rw [z]
              exact hmem
            · exact List.mem_of_mem_take z
          · rcases ((layC_spec _ _).2 y).mp hy with z | ⟨c', hc', e1, e2⟩
            · rcases ((lay_spec _ _).2 y).mp z with z | ⟨x, hx, c', hc', e1, e2⟩
              · cases z
              · exact ⟨x, List.mem_cons_of_mem _ hx, c', hc', e1, e2⟩
            · exact ⟨m', List.mem_cons_self, c', List.mem_of_mem_take hc', e1, e2⟩
        have hnd : (layC p m' (lay p (ms.take i) []) ((moves m').take j)).Nodup := (layC_spec _ _).1 ((lay_spec _ _).1 List.nodup_nil)
        have hlen := Lay.len ok hnd hacc
        have hbl := paired_len hbs
        refine q_asgL (evl_call (ea_cons (ev_var rfl) (ea_cons (ev_var rfl) (ea_cons (ev_var rfl) ea_nil))) (spl_later (hR.mono (e04.trans e7)) ok hMsk hma7 hcm)) fun hr' H8 nh e8 hh8 => ?_
        have hne : hr' ≠ lh := (ne_of_none hlh7 nh).symm
        have hlh8 := exu e8 hlh7
        have hbs8 := msks_mono e8 hbs
        refine s_when (b := !decide (placesL (mb p m' c) = []) && !decide (mb p m' c ∈ layC p m' (lay p (ms.take i) []) ((moves m').take j))) (et_and (et_test (ev_opL (ev_var rfl) (el_lst ea_nil (Nat.zero_le _)) fun q H9 hq e => rv_neN (ms := []) (exu e hh8) hq)) fun _ => et_test (ev_op (ev_var rfl) (ev_var rfl) (rv_niMsks (hM2.lt ok) (fun x hx => (hacc x hx).1.lt ok) hh8 hlh8 hbs8))) (fun hb H9 e9 => ?_) fun hb H9 e9 => ?_
        · simp only [Bool.and_eq_true, Bool.not_eq_true', decide_eq_false_iff_not] at hb
          have h0 : mb p m' c ≠ 0 := fun z => hb.1 ((placesL_nil (hM2.lt ok)).mpr z)
          refine s_app (exu e9 hlh8) (ev_var rfl) (ev_var rfl) (by rw [List.length_map]; omega) fun H10 e10 => ?_
          have e910 := e9.trans e10
          refine ⟨bs ++ [hr'], _, _, rfl, qlh, ?_, ((e7.trans e8).trans e910).mut nlh, ?_, fun x hx => ?_, ?_⟩
          · rw [upd_ne qlh]
            exact exu (e8.trans e910) hq7
          · rw [upd_same, List.map_append]
            rfl
          · rcases List.mem_append.mp hx with z | z
            · exact nbs x z
            · rw [List.mem_singleton.mp z]
              exact hne
          · rw [estep]
            unfold addN
            rw [if_pos ⟨h0, hb.2⟩]
            have key : ∀ {bs : List Addr} {ks : List Nat}, (∀ a ∈ bs, a ≠ lh) → Paired (mskP H8) bs ks → Paired (mskP (upd H10 lh (.lst (bs.map V.ref ++ [V.ref hr'])))) bs ks := fun {bs ks} h hp => by
              have gen : ∀ (o : HO) {cs : List Addr} {ks : List Nat}, (∀ a ∈ cs, a ≠ lh) → Paired (mskP H8) cs ks → Paired (mskP (upd H10 lh o)) cs ks := by
                intro o cs ks h hp
                induction hp with
                | nil => exact .nil
                | cons r t ih =>
                  refine .cons ?_ (ih fun a ha => h a (List.mem_cons_of_mem _ ha))
                  show (upd H10 lh o) _ = _
                  rw [upd_ne (h _ List.mem_cons_self)]
                  exact exu e910 r
              exact gen _ h hp
            refine paired_snoc (key nbs hbs8) ?_
            show (upd H10 lh _) hr' = _
            rw [upd_ne hne]
            exact exu e910 hh8
        · refine ⟨bs, _, _, rfl, qlh, exu (e8.trans e9) hq7, (e7.trans e8).trans e9, exu e9 hlh8, nbs, ?_⟩
          rw [estep]
          have : ¬ (mb p m' c ≠ 0 ∧ mb p m' c ∉ layC p m' (lay p (ms.take i) []) ((moves m').take j)) := fun z => by
            have n0 : ¬ placesL (mb p m' c) = [] := fun q => z.1 ((placesL_nil (hM2.lt ok)).mp q)
            rw [decide_eq_false n0, decide_eq_false z.2] at hb
            exact Bool.noConfusion hb
          unfold addN
          rw [if_neg this]
          exact msks_mono e9 hbs8
      · rintro q σ' H7 ⟨bs, y6, y7, rfl, qlh, hq7, e7, hlh7, nbs, hbs⟩
        rw [List.length_map, List.take_length] at hbs
        refine ⟨bs, _, y6, y7, rfl, e7, hlh7, nbs, ?_⟩
        rw [elay]
        exact hbs
    · rintro σ' H6 ⟨bs, z5, z6, z7, rfl, e6, hlh6, nbs, hbs⟩
      rw [List.length_map, paired_len hms4, List.take_length] at hbs
      refine q_asg (ev_var rfl) fun H7 e7 => ?_
      refine s_aug rfl ev_c fun H8 e8 => ?_
      have e78 := e7.trans e8
      rcases lay_next ok hL with ⟨z1, z2⟩ | ⟨z1, z2⟩
      · exact ⟨0, by omega, lay p ms [], bs, lh, f + 1, _, _, _, _, .inl ⟨z2, by omega, rfl⟩, rfl, (e04.trans e6).trans e78, exu e78 hlh6, msks_mono e78 hbs⟩
      · exact ⟨r', by omega, lay p ms [], bs, lh, f + 1, _, _, _, _, .inr ⟨r' - 1, z2, by omega, by omega⟩, rfl, (e04.trans e6).trans e78, exu e78 hlh6, msks_mono e78 hbs⟩
theorem spv_law_forgets {H : Hp} {r : Addr} {p : Plan} (hR : RuleAt H r p) (ok : RuleOk p) : SpV sp_law_forgets [.ref r] H (nV (L p (full p) + 1)) := fun H1 e Q k _ => ⟨r, p, rfl, hR.mono e, ok, k⟩
def sp_law_history_right : Sp := fun vs H Q _ => ∃ (r : Addr) (p : Plan) (a : Addr) (cs : List (Option Nat)), vs = [.ref r, .ref a] ∧ RuleAt H r p ∧ RuleOk p ∧ H a = some (.lst (cs.map oV)) ∧ (∀ c ∈ cs, ∀ x, c = some x → x < p.length) ∧ RetV (.bl (histR p (full p) cs)) H Q
theorem ok_law_history_right (T : Tx K mg) : FnOk P w K mg base CX0 2 T.a_law_history_right T.d_law_history_right ["_law_plan", "_law_calls"] sp_law_history_right := by
  refine T.h_law_history_right.F.ok sc_law_history_right (fun vs H Q E h => ?_) (fun cdv A outer s H vs Q E hr h => ?_)
  · obtain ⟨r, p, a, cs, rfl, _⟩ := h
    rfl
  · obtain ⟨r, p, a, cs, rfl, hR, ok, ha, hcs, k⟩ := h
    have h5 := ok.hi
    refine ⟨_, (pss_cons (ps_set (i := 2) sc_law_history_right.nd rfl (.inl rfl) (pe_listRg rfl rfl T.z_list (prg_1 rfl T.z_range (pe_callB (call_len_seqK (K := K) rfl) (by rfl) T.z_len PySem.boot_len (pa_cons (pv 0) pa_nil)))))
      (pss_cons (ps_for PassesOwn.never rfl (pi_list (pv 1)) (pg_name (i := 3) sc_law_history_right.nd rfl (.inl rfl))
      (pss_cons (ps_set (i := 2) sc_law_history_right.nd rfl (.inl rfl) (pe_call (ok_law_later T) (hr.mono (by decide)) (by rfl) T.h_law_later.g T.h_law_later.kp T.h_law_later.b .nil pass0 (pa_cons (pv 0) (pa_cons (pv 2) (pa_cons (pv 3) pa_nil)))))
      (pss_one (ps_if (pt_cmp (pc_isN (pv 2)))
      (pss_one (ps_ret pe_bl))
      pss_nil))))
      (pss_one (ps_ret (pe_cmpR (op_neD hr.units) (pv 2) (pe_lst pa_nil) (nomark _)))))), ?_⟩
    refine q_asgL (el_listRg1 (k := p.length) (len_rule hR (ev_var rfl)) (by omega)) fun s0 H1 ns0 e1 hs0 => ?_
    rw [← full_places ok] at hs0
    refine q_forLn (ev_var rfl) (sq_of (exu e1 ha)) (fun i σ' H' => ∃ m s y3, σ' = [some (.ref r), some (.ref a), some (.ref s), y3] ∧ Ex H H' ∧ mskP H' s m ∧ Msk p m ∧ histR p (full p) cs = histR p m (cs.drop i))
      (fun H2 e2 => ⟨full p, s0, none, rfl, e1.trans e2, exu e2 hs0, full_msk p, rfl⟩) (fun i σ' H' _ ⟨_, _, _, _, e, _⟩ => sq_of (exu e ha)) ?_ ?_
    · rintro i x σ' H2 hx ⟨m, s, y3, rfl, e2, hs, hm, hh⟩
      rw [List.getElem?_map] at hx
      obtain ⟨c, hc, rfl⟩ := Option.map_eq_some_iff.mp hx
      have hcl := hcs c (List.mem_of_getElem? hc)
      have edrop : cs.drop i = c :: cs.drop (i + 1) := (List.drop_eq_getElem_cons (List.getElem?_eq_some_iff.mp hc).1).trans (by rw [(List.getElem?_eq_some_iff.mp hc).2])
      rw [edrop] at hh
      have hh : histR p (full p) cs = (decide (c ∈ moves m) && histR p (mb p m c) (cs.drop (i + 1))) := hh
      by_cases hin : c ∈ moves m
      · rw [decide_eq_true hin] at hh
        refine q_asgL (evl_call (ea_cons (ev_var rfl) (ea_cons (ev_var rfl) (ea_cons (ev_var rfl) ea_nil))) (spl_later (hR.mono e2) ok hm hs hin)) fun s' H3 ns e3 hs3 => ?_
        refine s_ifno (et_is (et_B (ev_isN (ev_var rfl))) (by rfl)) fun H4 e4 => ?_
        exact ⟨mb p m c, s', _, rfl, (e2.trans e3).trans e4, exu e4 hs3, mb_msk ok hm c hcl, hh⟩
      · rw [decide_eq_false hin] at hh
        refine q_asg (ev_call (ea_cons (ev_var rfl) (ea_cons (ev_var rfl) (ea_cons (ev_var rfl) ea_nil))) (spv_later (hR.mono e2) ok hm hs hcl hin)) fun H3 e3 => ?_
        refine s_when (b := true) (et_is (et_B (ev_isN (ev_var rfl))) (by rfl)) (fun _ H4 e4 => ?_) fun z => Bool.noConfusion z
        have hh : histR p (full p) cs = false := hh
        rw [hh] at k
        exact s_retV rfl ev_c fun H5 e5 => k H5 (((e2.trans e3).trans e4).trans e5)
    · rintro σ' H2 ⟨m, s, y3, rfl, e2, hs, hm, hh⟩
      rw [List.length_map, List.drop_length] at hh
      refine s_retV rfl (ev_is (ev_opL (ev_var rfl) (el_lst ea_nil (Nat.zero_le _)) fun q H4 hq e => rv_neN (ms := []) (exu e hs) hq) ?_) fun H3 e3 => k H3 (e2.trans e3)
      rw [hh]
      show V.bl (!decide (placesL m = [])) = V.bl (decide (m ≠ 0))
      congr 1
      by_cases c : m = 0
      · rw [decide_eq_true ((placesL_nil (hm.lt ok)).mpr c)]
        simp [c]
      · rw [decide_eq_false fun z => c ((placesL_nil (hm.lt ok)).mp z), decide_eq_true c]
        rfl
end
end K78

/-! K78x5: _law_life, _law_lost. -/
namespace K78
open PySem PySem.Spec PyProof.Rows L2 Evl
local macro_rules | `(tactic| walk_at "sq") => `(tactic| first | exact sq_of (by assumption) | assumption)
local macro_rules | `(tactic| walk_at "at") => `(tactic| first | exact atI_nat (by assumption) | assumption)
local macro_rules | `(tactic| walk_at "side") => `(tactic| first | assumption | exact ⟨by decide, by decide⟩ | decide | omega)
local macro_rules | `(tactic| walk_at "rv") => `(tactic| first
  | exact rv_I0
  | exact rv_eq rfl
  | exact rv_ne rfl
  | (refine' rv_ixL ?h ?a; (case h => walk_at "sq"); (case a => walk_at "at"))
  | (refine' rv_I ?c; (case c => walk_at "side")))
local macro_rules | `(tactic| walk_at "ev") => `(tactic| first
  | exact ev_var rfl
  | exact ev_c
  | (refine' ev_isi ?a ?b (.ty _) ?c ?d; (case a => walk_at "ev"); (case b => walk_at "ev"); (case c => first | exact ty_int | exact ty_str | exact ty_lst (by assumption)); (case d => first | exact kit_ty k_ii | exact kit_ty k_ib | exact kit_ty k_si | exact kit_ty k_ll | exact kit_ty k_ss))
  | (refine' ev_op ?a ?b ?c; (case a => walk_at "ev"); (case b => walk_at "ev"); (case c => walk_at "rv"))
  | (refine' ev_un ?a ?b; (case a => walk_at "ev"); (case b => exact ru_neg))
  | (refine' ev_isN ?a; (case a => walk_at "ev"))
  | (refine' ev_notN ?a; (case a => walk_at "ev"))
  | (refine' ev_orV1 (ev_is ?a ?b); (case a => walk_at "ev"); (case b => decide))
  | (refine' ev_andV0 (ev_is ?a ?b); (case a => walk_at "ev"); (case b => decide))
  | (refine' ev_andV ?a ?b; (case a => walk_at "ev"); (case b => intro _; walk_at "ev"))
  | (refine' ev_orV ?a ?b; (case a => walk_at "ev"); (case b => intro _; walk_at "ev"))
  | (refine' ev_notV ?a; (case a => walk_at "ev"))
  | (refine' ev_len ?a ?b; (case a => walk_at "ev"); (case b => walk_at "sq"))
  | (refine' ev_chain ?a ?b ?c ?d ?e; (case a => walk_at "ev"); (case b => walk_at "ev"); (case c => walk_at "rv"); (case d => intro _; walk_at "ev"); (case e => intro _; walk_at "rv")))
local macro_rules | `(tactic| walk_at "et") => `(tactic| first
  | (refine' et_test ?a; (case a => walk_at "ev"))
  | (refine' et_B ?a; (case a => walk_at "ev"))
  | (refine' et_not ?a; (case a => walk_at "et"))
  | (refine' et_or1 (et_is ?a ?b); (case a => walk_at "et"); (case b => decide))
  | (refine' et_and0 (et_is ?a ?b); (case a => walk_at "et"); (case b => decide))
  | (refine' et_and ?a ?b; (case a => walk_at "et"); (case b => intro _; walk_at "et"))
  | (refine' et_or ?a ?b; (case a => walk_at "et"); (case b => intro _; walk_at "et")))
section
variable {P : Program} {w : World} {K : PySem.W.Frag} {mg : Str → Option Value} {base : Heap}
section
variable {σ : L2.St} {H : Hp} {ta tb te : TE} {D : Ends} {tz : TS}
def LstP (xs : List V) : V → Hp → Prop := fun v H' => ∃ a, v = .ref a ∧ H' a = some (.lst xs)
theorem lstP_L {xs : List V} (h : EvL te σ H xs) : EvP te σ H (LstP xs) := evp_imp (evp_ofL h) fun v H' ⟨l, e, _, hl⟩ => ⟨l, e, hl⟩
theorem lstP_E {xs : List V} {a : Addr} (h : Ev te σ H (.ref a)) (ha : H a = some (.lst xs)) : EvP te σ H (LstP xs) := fun H1 e Q q => h H1 e _ fun H2 e2 => q _ H2 e2 ⟨a, rfl, exu (e.trans e2) ha⟩
theorem sorted_ints {ns : List Int} {l' : List Nat} (h1 : ns.Pairwise (· < ·)) (h2 : l'.Pairwise (· < ·)) (hm : ∀ k : Int, k ∈ ns ↔ k ∈ l'.map fun (n : Nat) => (n : Int)) : ns.map V.int = l'.map nV := by
  rw [map_nV]
  congr 1
  have h3 : (l'.map fun (n : Nat) => (n : Int)).Pairwise (· < ·) := by
    rw [List.pairwise_map]
    exact h2.imp fun h => Int.ofNat_lt.mpr h
  refine List.Perm.eq_of_pairwise (le := (· ≤ ·)) (fun a b _ _ x y => Int.le_antisymm x y) (h1.imp fun h => Int.le_of_lt h) (h3.imp fun h => Int.le_of_lt h) ?_
  exact (List.perm_ext_iff_of_nodup (h1.imp fun h => Int.ne_of_lt h) (h3.imp fun h => Int.ne_of_lt h)).mpr fun k => hm k
theorem el_sset {l l' : List Nat} (h : EvP te σ H (LstP (l.map nV))) (hz : l.length < 60) (hs : l'.Pairwise (· < ·)) (hm : ∀ x, x ∈ l' ↔ x ∈ l) : EvL (tCB (rSortedSet w) (tCons (tCB (rSetI K w) (tCons te tNil)) tNil)) σ H (l'.map nV) := fun H1 e Q q =>
  h H1 e _ fun v H2 e2 ⟨a, ev, ha⟩ => by
    subst ev
    refine ⟨a, l.map fun (n : Nat) => (n : Int), rfl, by rw [← map_nV]; exact sq_of ha, by rw [List.length_map]; show _ < 4096; omega, fun p n np hn => ⟨p, _, n, rfl, upd_same, by rw [List.length_map] at hn; omega, fun ns b hns hk hlen nb => ?_⟩⟩
    have e3 := (Ex.new (o := SetO w p (fun j => decide (j ∈ l.map fun (n : Nat) => (n : Int))) n) np).trans (Ex.new (o := .lst (ns.map V.int)) nb)
    refine q b _ (fresh_back (e2.trans (Ex.new np)) nb) (e2.trans e3) ?_
    rw [upd_same, sorted_ints hns hs fun k => ?_]
    rw [hk k, decide_eq_true_iff, List.mem_map, List.mem_map]
    exact ⟨fun ⟨x, hx, e⟩ => ⟨x, (hm x).mpr hx, e⟩, fun ⟨x, hx, e⟩ => ⟨x, (hm x).mp hx, e⟩⟩
theorem s_ext {l : Addr} {xs ys : List V} (hl : H l = some (.lst xs)) (ha : Ev ta σ H (.ref l)) (h : EvL te σ H ys) (hz : xs.length + ys.length ≤ 100000) (k : ∀ H1, Ex H H1 → D.nx σ (upd H1 l (.lst (xs ++ ys)))) : tDrop (tBM K "list" rExtend ta (tCons te tNil)) D σ H := ha H (Ex.refl H) _ fun H1 e1 =>
  ⟨Or.inl ⟨rfl, xs, sq_of (e1 l _ hl)⟩, h H1 e1 _ fun p H2 hp e2 h2 => ⟨l, p, xs, ys, rfl, rfl, e2 l _ (e1 l _ hl), h2, sz_of hz, k H2 (e1.trans e2)⟩⟩
end
theorem el_cat2L {σ : L2.St} {H : Hp} {ta tb : TE} {xs ys : List V} {a : Addr} (ha : Ev ta σ H (.ref a)) (h1 : H a = some (.lst xs)) (hb : EvL tb σ H ys) (hz : xs.length + ys.length ≤ 100000) : EvL (tOp rCat ta tb) σ H (xs ++ ys) := fun H1 e Q q =>
  ha H1 e _ fun H2 e2 => hb H2 (e.trans e2) _ fun b H3 nb e3 hb3 => ⟨a, b, xs, ys, rfl, rfl, exu ((e.trans e2).trans e3) h1, hb3, sz_of hz, fun p np => q p _ (fresh_back (e2.trans e3) np) ((e2.trans e3).trans (Ex.new np)) upd_same⟩
def rowH (p : Plan) (h : Nat) : List Nat := ((List.range p.length).filter (fun q => decide (q ≠ h))).map fun q => rg p q h
theorem rowH_len {p : Plan} (ok : RuleOk p) (h : Nat) : (rowH p h).length ≤ 5 := by
  have := ok.hi
  have h2 := List.length_filter_le (fun q => decide (q ≠ h)) (List.range p.length)
  rw [List.length_range] at h2
  unfold rowH
  rw [List.length_map]
  omega
theorem rows_len {p : Plan} (ok : RuleOk p) : ∀ l : List Nat, ((l.map (rowH p)).flatten).length ≤ 5 * l.length
  | [] => by simp
  | x :: l => by
    have := rows_len ok l
    have h := rowH_len ok x
    rw [List.map_cons, List.flatten_cons, List.length_append, List.length_cons]
    omega
theorem ne_test (x h : Nat) : (!decide (nV x = nV h)) = decide (x ≠ h) := by
  by_cases c : x = h
  · subst c
    simp
  · have : ¬ nV x = nV h := fun z => c (Int.ofNat.inj (V.int.inj z))
    rw [decide_eq_false this, decide_eq_true c]
    rfl
theorem pred_V {h : Nat} (h0 : h ≠ 0) : V.int ((h : Int) - 1) = nV (h - 1) := by
  show V.int ((h : Int) - 1) = V.int ((h - 1 : Nat) : Int)
  congr 1
  omega
theorem all_true {α : Type} {β : Type} {l : List α} (f : α → β) : (l.filter fun _ => true).map f = l.map f := by rw [List.filter_eq_self.mpr fun _ _ => rfl]
def sp_law_life : Sp := fun vs H Q _ => ∃ (r : Addr) (p : Plan) (q t : Nat), vs = [.ref r, nV q] ∧ RuleAt H r p ∧ RuleOk p ∧ q < p.length ∧ IsD p q t ∧ RetV (nV (t + 1)) H Q
theorem ok_law_life (T : Tx K mg) : FnOk P w K mg base CX0 1 T.a_law_life T.d_law_life ["_law_plan", "_law_place"] sp_law_life := by
  refine T.h_law_life.F.ok sc_law_life (fun vs H Q E h => ?_) (fun cdv A outer s H vs Q E hr h => ?_)
  · obtain ⟨r, p, q, t, rfl, _⟩ := h
    rfl
  · obtain ⟨r, p, p0, t0, rfl, hR, ok, hp, hD, k⟩ := h
    have h5 := ok.hi
    refine ⟨_, (pss_cons (ps_asg (pe_tup (pa_cons (pe_lst (pa_cons (pv 1) pa_nil)) (pa_cons (pe_lst (pa_cons (pv 1) pa_nil)) (pa_cons pe_int pa_nil)))) (pg_tup rfl (pgs_cons (pg_name (i := 2) sc_law_life.nd rfl (.inl rfl)) (pgs_cons (pg_name (i := 3) sc_law_life.nd rfl (.inr rfl)) (pgs_cons (pg_name (i := 4) sc_law_life.nd rfl (.inl rfl)) pgs_nil)))))
      (pss_one (ps_while PassesOwn.never (pt_val pe_bl)
      (pss_cons (ps_aug (i := 4) sc_law_life.nd rfl (.inl rfl) pe_int ip_add)
      (pss_cons (ps_if (pt_cmpR (op_in_seqK (K := K) rfl) pe_int (pv 2) (by rfl))
      (pss_one (ps_ret (pv 4)))
      pss_nil)
      (pss_cons (ps_setLc (i := 5) (own := [("_law_here", 6)]) (g := gName 6) (tt := tYes) rfl sc_law_life.nd rfl rfl (sw_true rfl rfl rfl (by decide +kernel)) (pi_list (pv 2)) (blkOk_by (own := [("_law_here", 6)]) (N := ["_law_plan", "_law_place", "_law_layer", "_law_known", "_law_found", "_law_later_here", "_law_here", "_law_q"]) (sc := defScope s_law_life) (by decide +kernel)) (fun _ _ _ _ _ => pg_name (i := 6) sc_law_life.nd rfl (.inl rfl)) (fun _ _ _ _ _ => pts_nil) (fun _ _ _ _ _ => (pe_op op_sub (pv 6) pe_int)))
      (pss_cons (ps_for PassesOwn.never rfl (pi_list (pv 2)) (pg_name (i := 6) sc_law_life.nd rfl (.inr rfl))
      (pss_one (ps_expr (pe_bm PySem.F.plainAttrs_list PySem.F.slot_list_extend PySem.F.type_list_extend mt_extend (pv 5) (pa_cons (pe_lc (own := [("_law_q", 7)]) (g := gName 7) rfl sc_law_life.nd (pi_range1 rfl T.z_range (pa_cons (pe_callB (call_len_seqK (K := K) rfl) (by rfl) T.z_len PySem.boot_len (pa_cons (pv 0) pa_nil)) pa_nil)) (blkOk_by (own := [("_law_q", 7)]) (N := ["_law_plan", "_law_place", "_law_layer", "_law_known", "_law_found", "_law_later_here", "_law_here", "_law_q"]) (sc := defScope s_law_life) (by decide +kernel)) (fun _ _ _ _ _ => pg_name (i := 7) sc_law_life.nd rfl (.inl rfl)) (fun _ _ _ _ _ => pts_one (pt_cmpR op_ne (pv 7) (pv 6) (nomark _))) (fun _ _ _ _ _ => (pe_ix (ix_listK (K := K) rfl) (pe_ix (ix_listK (K := K) rfl) (pv 0) (pv 7) (fun _ _ => rfl)) (pv 6) (fun _ _ => rfl)))) pa_nil)))))
      (pss_cons (ps_set (i := 2) sc_law_life.nd rfl (.inl rfl) (pe_callB (cr_sortedSet rfl) (by rfl) T.z_sorted (by decide +kernel) (pa_cons (pe_callTy (call_setI rfl) (by rfl) T.z_set (by decide +kernel) (pa_cons (pe_lc (own := [("_law_here", 6)]) (g := gName 6) rfl sc_law_life.nd (pi_list (pv 5)) (blkOk_by (own := [("_law_here", 6)]) (N := ["_law_plan", "_law_place", "_law_layer", "_law_known", "_law_found", "_law_later_here", "_law_here", "_law_q"]) (sc := defScope s_law_life) (by decide +kernel)) (fun _ _ _ _ _ => pg_name (i := 6) sc_law_life.nd rfl (.inl rfl)) (fun _ _ _ _ _ => pts_one (pt_cmpR (op_notIn_seqK (K := K) rfl) (pv 6) (pv 3) (by rfl))) (fun _ _ _ _ _ => (pv 6))) pa_nil)) pa_nil)))
      (pss_one (ps_set (i := 3) sc_law_life.nd rfl (.inr rfl) (pe_op op_cat (pv 3) (pv 2)))))))))))), ?_⟩
    refine ⟨_, rfl, by show 1 ≤ sizeLine; decide, fun l1 n1 => ⟨_, rfl, by show 1 ≤ sizeLine; decide, fun l2 n2 => ⟨by show 3 ≤ sizeLine; decide, fun t nt => ⟨t, _, rfl, st_of upd_same, rfl, _, _, rfl, _, _, rfl, _, _, rfl, rfl, ?_⟩⟩⟩⟩
    have l12 : l1 ≠ l2 := ne_of_none upd_same n2
    have ha1 : (upd (upd H l1 (.lst [nV p0])) l2 (.lst [nV p0])) l1 = some (.lst [nV p0]) := by
      rw [upd_ne l12]
      exact upd_same
    have ha2 : (upd (upd H l1 (.lst [nV p0])) l2 (.lst [nV p0])) l2 = some (.lst [nV p0]) := upd_same
    have e2 := ((Ex.new (o := .lst [nV p0]) n1).trans (Ex.new (o := .lst [nV p0]) n2)).trans (Ex.new (o := .tup [.ref l1, .ref l2, .int 0]) nt)
    refine s_while (D := { nx := _, rt := Q }) (fun m σ' H' => ∃ t ly kn y5 y6 y7, m + t = p0 ∧ σ' = [some (.ref r), some (nV p0), some (.ref ly), some (.ref kn), some (nV t), y5, y6, y7] ∧ Ex H H' ∧ H' ly = some (.lst ((layK p p0 t).1.map nV)) ∧ H' kn = some (.lst ((layK p p0 t).2.map nV)) ∧ ∀ s, s < t → 0 ∉ (layK p p0 s).1) p0
      ⟨0, l1, l2, _, _, _, rfl, rfl, e2, exu (Ex.new nt) ha1, exu (Ex.new nt) ha2, fun s hs => absurd hs (Nat.not_lt_zero s)⟩ ?_
    rintro m σ' H3 ⟨t, ly, kn, y5, y6, y7, hm, rfl, e3, hly, hkn, h0⟩
    refine ⟨true, et_test ev_c, fun _ H4 e4 => ⟨_, fun σ2 H2 h => h, ?_⟩, fun z => Bool.noConfusion z⟩
    obtain ⟨k1, k2, k3, k4, k5⟩ := layK_lt ok hp t
    have kl : (layK p p0 t).2.length ≤ 5 := by
      have := k4.length_le_of_subset (l₂ := List.range p.length) fun x hx => List.mem_range.mpr (k2 x hx)
      rw [List.length_range] at this
      omega
    refine q_aug rfl ev_c fun H5 e5 => ?_
    have e45 := e4.trans e5
    have hly5 := exu e45 hly
    have hkn5 := exu e45 hkn
    have e05 := e3.trans e45
    have hin : inV (.int 0) ((layK p p0 t).1.map nV) = decide (0 ∈ (layK p p0 t).1) := inV_nat (x := 0) _
    refine q_when (b := decide (0 ∈ (layK p p0 t).1)) (et_is (et_test (ev_op ev_c (ev_var rfl) (rv_isL (sq_of hly5) rfl (flat_nat _)))) hin) (fun hb H6 e6 => ?_) fun hb H6 e6 => ?_
    · have z := of_decide_eq_true hb
      have et : t = t0 := IsD.uniq ⟨z, h0⟩ hD
      subst et
      exact s_retV rfl (ev_var rfl) fun H7 e7 => k H7 ((e05.trans e6).trans e7)
    have z0 : 0 ∉ (layK p p0 t).1 := of_decide_eq_false hb
    have hly6 := exu e6 hly5
    have hkn6 := exu e6 hkn5
    have e06 := e05.trans e6
    refine q_asgL (el_is (el_lcF nV (fun h => nV (h - 1)) (fun _ => true) (ev_var rfl) hly6 (by omega) (fun _ => rfl) (fun _ _ _ _ => et_yes) fun x hx H7 e7 _ => ev_is (ev_op (ev_var rfl) ev_c rv_I0) (pred_V fun e => z0 (e ▸ hx))) (all_true _)) fun lt H7 nlt e7 hlt => ?_
    have e07 := e06.trans e7
    refine q_forLn (ev_var rfl) (sq_of (exu e7 hly6)) (fun i σ' H' => ∃ y6, σ' = [some (.ref r), some (nV p0), some (.ref ly), some (.ref kn), some (nV (t + 1)), some (.ref lt), y6, y7] ∧ Ex H6 H' ∧ H' lt = some (.lst (((layK p p0 t).1.map (· - 1) ++ (((layK p p0 t).1.take i).map (rowH p)).flatten).map nV)))
      (fun H8 e8 => ⟨y6, rfl, e7.trans e8, by rw [List.take_zero, List.map_nil, List.flatten_nil, List.append_nil, List.map_map]; exact exu e8 hlt⟩) (fun i σ' H' _ ⟨_, _, e, _⟩ => sq_of (exu e hly6)) ?_ ?_
    · rintro i x σ' H8 hx ⟨y6, rfl, e8, hlt8⟩
      rw [List.getElem?_map] at hx
      obtain ⟨here, hh, rfl⟩ := Option.map_eq_some_iff.mp hx
      have hhl := k1 here (List.mem_of_getElem? hh)
      have hR8 := hR.mono (e06.trans e8)
      have hrl := rows_len ok ((layK p p0 t).1.take i)
      have hrl2 := rowH_len ok here
      have htl := List.length_take_le i (layK p p0 t).1
      refine s_ext hlt8 (ev_var rfl) (ys := (rowH p here).map nV) (el_is (el_lcRg (fun q => nV (rg p q here)) (fun q => decide (q ≠ here)) (ea_cons (len_rule hR8 (ev_var rfl)) ea_nil) (by omega) (fun _ => rfl) (fun q hq H9 e9 => et_is (et_test (ev_op (ev_var rfl) (ev_var rfl) (rv_ne rfl))) (ne_test q here)) fun q hq H9 e9 _ => ev_rule ok (hR8.mono e9) (ev_var rfl) (ev_var rfl) (ev_var rfl) hq hhl) ?_) ?_ fun H9 e9 => ⟨_, rfl, (e8.trans e9).mut nlt, ?_⟩
      · unfold rowH
        rw [List.map_map]
        rfl
      · rw [List.length_map, List.length_append, List.length_map, List.length_map]
        have : i ≤ (layK p p0 t).1.length := Nat.le_of_lt (List.getElem?_eq_some_iff.mp hh).1
        rw [List.length_take] at hrl
        omega
      · rw [upd_same, take_snoc hh, List.map_append (l₁ := (layK p p0 t).1.take i), List.flatten_append, ← List.append_assoc, List.map_append (l₂ := ([here].map (rowH p)).flatten)]
        simp
    · rintro σ' H8 ⟨y6, rfl, e8, hlt8⟩
      rw [List.length_map, List.take_length] at hlt8
      have hlt8 : H8 lt = some (.lst ((succL p (layK p p0 t).1).map nV)) := hlt8
      have hkn8 := exu e8 hkn6
      have hsl : (succL p (layK p p0 t).1).length ≤ 30 := by
        have := rows_len ok (layK p p0 t).1
        show ((layK p p0 t).1.map (· - 1) ++ ((layK p p0 t).1.map (rowH p)).flatten).length ≤ 30
        rw [List.length_append, List.length_map]
        omega
      have hfl := List.length_filter_le (fun x => decide (x ∉ (layK p p0 t).2)) (succL p (layK p p0 t).1)
      refine q_asgL (el_sset (l := (succL p (layK p p0 t).1).filter fun x => decide (x ∉ (layK p p0 t).2)) (l' := nxt p (layK p p0 t).1 (layK p p0 t).2) (lstP_L (el_is (el_lcF nV nV (fun x => decide (x ∉ (layK p p0 t).2)) (ev_var rfl) hlt8 (by omega) (fun _ => rfl) (fun x hx H9 e9 => et_is (et_test (ev_op (ev_var rfl) (ev_var rfl) (rv_niL (sq_of (exu e9 hkn8)) rfl (flat_nat _)))) ?_) fun x hx H9 e9 _ => ev_var rfl) rfl)) (by omega) (ss_sorted _) fun x => mem_ss fun x hx => lt5 ok (succL_lt ok k1 x (List.mem_filter.mp hx).1)) fun ly2 H9 nly2 e9 hly2 => ?_
      · rw [inV_nat]
        simp
      refine s_asgL (el_cat2 (ev_var rfl) (ev_var rfl) (exu e9 hkn8) hly2 (by rw [List.length_map, List.length_map]; have : (nxt p (layK p p0 t).1 (layK p p0 t).2).length ≤ 5 := ss_len _; omega)) fun kn2 H10 nkn2 e10 hkn2 => ?_
      have h0' : ∀ s, s < t + 1 → 0 ∉ (layK p p0 s).1 := fun s hs => by
        by_cases c : s = t
        · rw [c]
          exact z0
        · exact h0 s (by omega)
      have hle := layK_le ok hp h0'
      exact ⟨p0 - (t + 1), by omega, t + 1, ly2, kn2, _, _, _, by omega, rfl, e06.trans (e8.trans (e9.trans e10)), exu e10 hly2, by rw [hkn2, ← List.map_append]; rfl, h0'⟩
theorem spv_law_life {H : Hp} {r : Addr} {p : Plan} {q t : Nat} (hR : RuleAt H r p) (ok : RuleOk p) (hq : q < p.length) (ht : IsD p q t) : SpV sp_law_life [.ref r, nV q] H (nV (t + 1)) := fun H1 e Q k _ => ⟨r, p, q, t, rfl, hR.mono e, ok, hq, ht, k⟩
/-! ### _law_lost -/
def sp_law_lost : Sp := fun vs H Q _ => ∃ (r : Addr) (p : Plan) (g : Nat), vs = [.ref r, nV g] ∧ RuleAt H r p ∧ RuleOk p ∧ g ≤ 100 ∧ (LostG p g → RetV (.bl true) H Q) ∧ (¬ LostG p g → RetV (.bl false) H Q)
theorem ok_law_lost (T : Tx K mg) : FnOk P w K mg base CX0 1 T.a_law_lost T.d_law_lost ["_law_plan", "_law_gap"] sp_law_lost := by
  refine T.h_law_lost.F.ok sc_law_lost (fun vs H Q E h => ?_) (fun cdv A outer s H vs Q E hr h => ?_)
  · obtain ⟨r, p, g, rfl, _⟩ := h
    rfl
  · obtain ⟨r, p, g, rfl, hR, ok, hg, k1, k2⟩ := h
    have h5 := ok.hi
    have h2 := ok.lo
    refine ⟨_, (pss_cons (ps_par (i := 2) (j := 3) (by rfl) sc_law_lost.nd rfl rfl (by decide) rfl rfl (pa_cons (pe_lst (pa_cons (pe_op op_sub (pe_callB (call_len_seqK (K := K) rfl) (by rfl) T.z_len PySem.boot_len (pa_cons (pv 0) pa_nil)) pe_int) pa_nil)) (pa_cons pe_int pa_nil)) (by rfl))
      (pss_cons (ps_while PassesOwn.never (pt_cmpR op_lt (pv 3) (pe_callB (call_len_seqK (K := K) rfl) (by rfl) T.z_len PySem.boot_len (pa_cons (pv 2) pa_nil)) (nomark _))
      (pss_cons (ps_set (i := 4) sc_law_lost.nd rfl (.inl rfl) (pe_lst (pa_cons (pe_ix (ix_listK (K := K) rfl) (pv 2) (pv 3) (fun _ _ => rfl)) pa_nil)))
      (pss_cons (ps_set (i := 5) sc_law_lost.nd rfl (.inl rfl) (pe_lst (pa_cons (pe_ix (ix_listK (K := K) rfl) (pv 2) (pv 3) (fun _ _ => rfl)) pa_nil)))
      (pss_cons (ps_for PassesOwn.never rfl (pi_range1 rfl T.z_range (pa_cons (pv 1) pa_nil)) (pg_name (i := 6) sc_law_lost.nd rfl (.inl rfl))
      (pss_cons (ps_if (pt_cmpR (op_in_seqK (K := K) rfl) pe_int (pv 4) (by rfl))
      (pss_one (ps_ret pe_bl))
      pss_nil)
      (pss_cons (ps_setLc (i := 7) (own := [("_law_here", 8)]) (g := gName 8) (tt := tYes) rfl sc_law_lost.nd rfl rfl (sw_true rfl rfl rfl (by decide +kernel)) (pi_list (pv 4)) (blkOk_by (own := [("_law_here", 8)]) (N := ["_law_plan", "_law_gap", "_law_starts", "_law_at", "_law_layer", "_law_ends", "_law_k", "_law_later_here", "_law_here", "_law_q"]) (sc := defScope s_law_lost) (by decide +kernel)) (fun _ _ _ _ _ => pg_name (i := 8) sc_law_lost.nd rfl (.inl rfl)) (fun _ _ _ _ _ => pts_nil) (fun _ _ _ _ _ => (pe_op op_sub (pv 8) pe_int)))
      (pss_cons (ps_for PassesOwn.never rfl (pi_list (pv 4)) (pg_name (i := 8) sc_law_lost.nd rfl (.inr rfl))
      (pss_one (ps_expr (pe_bm PySem.F.plainAttrs_list PySem.F.slot_list_extend PySem.F.type_list_extend mt_extend (pv 7) (pa_cons (pe_lc (own := [("_law_q", 9)]) (g := gName 9) rfl sc_law_lost.nd (pi_range1 rfl T.z_range (pa_cons (pe_callB (call_len_seqK (K := K) rfl) (by rfl) T.z_len PySem.boot_len (pa_cons (pv 0) pa_nil)) pa_nil)) (blkOk_by (own := [("_law_q", 9)]) (N := ["_law_plan", "_law_gap", "_law_starts", "_law_at", "_law_layer", "_law_ends", "_law_k", "_law_later_here", "_law_here", "_law_q"]) (sc := defScope s_law_lost) (by decide +kernel)) (fun _ _ _ _ _ => pg_name (i := 9) sc_law_lost.nd rfl (.inl rfl)) (fun _ _ _ _ _ => pts_one (pt_cmpR op_ne (pv 9) (pv 8) (nomark _))) (fun _ _ _ _ _ => (pe_ix (ix_listK (K := K) rfl) (pe_ix (ix_listK (K := K) rfl) (pv 0) (pv 9) (fun _ _ => rfl)) (pv 8) (fun _ _ => rfl)))) pa_nil)))))
      (pss_cons (ps_set (i := 4) sc_law_lost.nd rfl (.inl rfl) (pe_callB (cr_sortedSet rfl) (by rfl) T.z_sorted (by decide +kernel) (pa_cons (pe_callTy (call_setI rfl) (by rfl) T.z_set (by decide +kernel) (pa_cons (pv 7) pa_nil)) pa_nil)))
      (pss_one (ps_set (i := 5) sc_law_lost.nd rfl (.inl rfl) (pe_callB (cr_sortedSet rfl) (by rfl) T.z_sorted (by decide +kernel) (pa_cons (pe_callTy (call_setI rfl) (by rfl) T.z_set (by decide +kernel) (pa_cons (pe_op op_cat (pv 5) (pv 4)) pa_nil)) pa_nil)))))))))
      (pss_cons (ps_for PassesOwn.never rfl (pi_list (pv 5)) (pg_name (i := 8) sc_law_lost.nd rfl (.inr rfl))
      (pss_one (ps_if (pt_cmpR (op_notIn_seqK (K := K) rfl) (pe_ix (ix_listK (K := K) rfl) (pe_ix (ix_listK (K := K) rfl) (pv 0) (pv 8) (fun _ _ => rfl)) (pv 8) (fun _ _ => rfl)) (pv 2) (by rfl))
      (pss_one (ps_set (i := 2) sc_law_lost.nd rfl (.inl rfl) (pe_op op_cat (pv 2) (pe_lst (pa_cons (pe_ix (ix_listK (K := K) rfl) (pe_ix (ix_listK (K := K) rfl) (pv 0) (pv 8) (fun _ _ => rfl)) (pv 8) (fun _ _ => rfl)) pa_nil)))))
      pss_nil)))
      (pss_one (ps_aug (i := 3) sc_law_lost.nd rfl (.inl rfl) pe_int ip_add)))))))
      (pss_one (ps_ret pe_bl)))), ?_⟩
    refine q_parP (evp_ofL (el_lst (ea_cons (ev_is (ev_op (len_rule hR (ev_var rfl)) ev_c rv_I0) (pred_V (by omega))) ea_nil) (by show 1 ≤ _; decide))) (fun _ _ => ev_c) fun v H1 e1 hv => ?_
    obtain ⟨H0, ⟨st0, rfl, _, hst0⟩, e01⟩ := hv
    refine q_while (fun m σ' H' => ∃ sts a st y4 y5 y6 y7 y8 y9, m + a = 5 ∧ σ' = [some (.ref r), some (nV g), some (.ref st), some (nV a), y4, y5, y6, y7, y8, y9] ∧ Ex H H' ∧ H' st = some (.lst (sts.map nV)) ∧ InvS p g sts a) 5
      ⟨[p.length - 1], 0, st0, _, _, _, _, _, _, rfl, rfl, e1, exu e01 hst0, invS_0⟩ ?_
    rintro m σ' H3 ⟨sts, a, st, y4, y5, y6, y7, y8, y9, hm, rfl, e3, hst, I⟩
    have hsl := I.len ok
    refine ⟨decide (a < sts.length), et_is (et_test (ev_op (ev_var rfl) (ev_len (ev_var rfl) (sq_of hst)) rv_I0)) (decide_eq_decide.mpr (by rw [List.length_map]; show (a : Int) < (sts.length : Int) ↔ _; omega)), fun hb H4 e4 => ⟨_, fun σ2 H2 h => h, ?_⟩, fun hb H4 e4 => ?_⟩
    rotate_left
    · have c := of_decide_eq_false hb
      exact s_retV rfl ev_c fun H5 e5 => k2 (I.not_lost ok (by omega)) H5 ((e3.trans e4).trans e5)
    have ca := of_decide_eq_true hb
    obtain ⟨sx, hsx⟩ : ∃ s, sts[a]? = some s := ⟨_, List.getElem?_eq_getElem ca⟩
    have hsm : sx ∈ sts := List.mem_of_getElem? hsx
    have hslt := ((I.rs sx hsm).lt ok).1
    have hst4 := exu e4 hst
    have e04 := e3.trans e4
    have gix : ∀ H', Ex H4 H' → ∀ σ : L2.St, σ[2]? = some (some (.ref st)) → σ[3]? = some (some (nV a)) → Ev (tOp (rIxL K) (tVar 2) (tVar 3)) σ H' (nV sx) := fun H' e σ s2 s3 => ev_op (ev_var s2) (ev_var s3) (rv_ixL (sq_of (exu e hst4)) (atI_nat (by rw [List.getElem?_map, hsx]; rfl)))
    refine q_asgL (el_lst (ea_cons (gix H4 (Ex.refl _) _ rfl rfl) ea_nil) (by show 1 ≤ _; decide)) fun ly H5 nly e5 hly => ?_
    refine q_asgL (el_lst (ea_cons (gix H5 e5 _ rfl rfl) ea_nil) (by show 1 ≤ _; decide)) fun en H6 nen e6 hen => ?_
    have e46 := e5.trans e6
    have hRx : ∀ H', Ex H4 H' → RuleAt H' r p := fun H' e => hR.mono (e04.trans e)
    refine q_forR1 (n := (g : Int)) (ea_cons (ev_var rfl) ea_nil) (by omega) (fun j σ' H' => ∃ ly en y6 y7 y8, σ' = [some (.ref r), some (nV g), some (.ref st), some (nV a), some (.ref ly), some (.ref en), y6, y7, y8, y9] ∧ Ex H4 H' ∧ H' ly = some (.lst ((layS p sx j).map nV)) ∧ H' en = some (.lst ((endS p sx j).map nV)) ∧ ∀ i, i < j → 0 ∉ layS p sx i)
      (fun H7 e7 => ⟨ly, en, _, _, _, rfl, e46.trans e7, exu (e6.trans e7) hly, exu e7 hen, fun i hi => absurd hi (Nat.not_lt_zero i)⟩) ?_ ?_
    · rintro j σ' H7 hj ⟨ly, en, z6, z7, z8, rfl, e7, hly7, hen7, h0⟩
      have hj' : j < g := by omega
      have hll := layS_len (p := p) (s := sx) j
      have hel := endS_len (p := p) (s := sx) j
      have hlt := layS_lt ok hslt j
      have hin : inV (.int 0) ((layS p sx j).map nV) = decide (0 ∈ layS p sx j) := inV_nat (x := 0) _
      refine q_when (b := decide (0 ∈ layS p sx j)) (et_is (et_test (ev_op ev_c (ev_var rfl) (rv_isL (sq_of hly7) rfl (flat_nat _)))) hin) (fun hb H8 e8 => ?_) fun hb H8 e8 => ?_
      · have z := of_decide_eq_true hb
        exact s_retV rfl ev_c fun H9 e9 => k1 (I.lost ok hsm hj' h0 z) H9 ((e04.trans (e7.trans e8)).trans e9)
      have z0 : 0 ∉ layS p sx j := of_decide_eq_false hb
      have hly8 := exu e8 hly7
      have hen8 := exu e8 hen7
      have e48 := e7.trans e8
      refine q_asgL (el_is (el_lcF nV (fun h => nV (h - 1)) (fun _ => true) (ev_var rfl) hly8 (by omega) (fun _ => rfl) (fun _ _ _ _ => et_yes) fun x hx H9 e9 _ => ev_is (ev_op (ev_var rfl) ev_c rv_I0) (pred_V fun e => z0 (e ▸ hx))) (all_true _)) fun lt H9 nlt e9 hlt9 => ?_
      refine q_forLn (ev_var rfl) (sq_of (exu e9 hly8)) (fun i σ' H' => ∃ z8, σ' = [some (.ref r), some (nV g), some (.ref st), some (nV a), some (.ref ly), some (.ref en), some (nV j), some (.ref lt), z8, y9] ∧ Ex H8 H' ∧ H' lt = some (.lst (((layS p sx j).map (· - 1) ++ (((layS p sx j).take i).map (rowH p)).flatten).map nV)))
        (fun H10 e10 => ⟨z8, rfl, e9.trans e10, by rw [List.take_zero, List.map_nil, List.flatten_nil, List.append_nil, List.map_map]; exact exu e10 hlt9⟩) (fun i σ' H' _ ⟨_, _, e, _⟩ => sq_of (exu e hly8)) ?_ ?_
      · rintro i x σ' H10 hx ⟨z8, rfl, e10, hlt10⟩
        rw [List.getElem?_map] at hx
        obtain ⟨here, hh, rfl⟩ := Option.map_eq_some_iff.mp hx
        have hhl := hlt here (List.mem_of_getElem? hh)
        have hR10 := hRx H10 (e48.trans e10)
        have hrl := rows_len ok ((layS p sx j).take i)
        have hrl2 := rowH_len ok here
        refine s_ext hlt10 (ev_var rfl) (ys := (rowH p here).map nV) (el_is (el_lcRg (fun q => nV (rg p q here)) (fun q => decide (q ≠ here)) (ea_cons (len_rule hR10 (ev_var rfl)) ea_nil) (by omega) (fun _ => rfl) (fun q hq H11 e11 => et_is (et_test (ev_op (ev_var rfl) (ev_var rfl) (rv_ne rfl))) (ne_test q here)) fun q hq H11 e11 _ => ev_rule ok (hR10.mono e11) (ev_var rfl) (ev_var rfl) (ev_var rfl) hq hhl) ?_) ?_ fun H11 e11 => ⟨_, rfl, (e10.trans e11).mut nlt, ?_⟩
        · unfold rowH
          rw [List.map_map]
          rfl
        · rw [List.length_map, List.length_append, List.length_map, List.length_map]
          rw [List.length_take] at hrl
          omega
        · rw [upd_same, take_snoc hh, List.map_append (l₁ := (layS p sx j).take i), List.flatten_append, ← List.append_assoc, List.map_append (l₂ := ([here].map (rowH p)).flatten)]
          simp
      · rintro σ' H10 ⟨z8, rfl, e10, hlt10⟩
        rw [List.length_map, List.take_length] at hlt10
        have hlt10 : H10 lt = some (.lst ((succL p (layS p sx j)).map nV)) := hlt10
        have hen10 := exu e10 hen8
        have hsl : (succL p (layS p sx j)).length ≤ 30 := by
          have := rows_len ok (layS p sx j)
          show ((layS p sx j).map (· - 1) ++ ((layS p sx j).map (rowH p)).flatten).length ≤ 30
          rw [List.length_append, List.length_map]
          omega
        have hslt' := succL_lt ok hlt
        refine q_asgL (el_sset (l := succL p (layS p sx j)) (l' := layS p sx (j + 1)) (lstP_E (ev_var rfl) hlt10) (by omega) (ss_sorted _) fun x => mem_ss fun x hx => lt5 ok (hslt' x hx)) fun ly2 H11 nly2 e11 hly2 => ?_
        have hl2 := layS_len (p := p) (s := sx) (j + 1)
        have hlt2 := layS_lt ok hslt (j + 1)
        have helt := endS_lt ok hslt j
        refine s_asgL (el_sset (l := endS p sx j ++ layS p sx (j + 1)) (l' := endS p sx (j + 1)) (lstP_L (el_is (el_cat2 (ev_var rfl) (ev_var rfl) (exu e11 hen10) hly2 (by rw [List.length_map, List.length_map]; omega)) List.map_append.symm)) (by rw [List.length_append]; omega) (ss_sorted _) fun x => mem_ss fun x hx => lt5 ok ((List.mem_append.mp hx).elim (helt x) (hlt2 x))) fun en2 H12 nen2 e12 hen2 => ?_
        refine ⟨ly2, en2, _, _, _, rfl, (e48.trans e10).trans (e11.trans e12), exu e12 hly2, hen2, fun i hi => ?_⟩
        by_cases c : i = j
        · rw [c]
          exact z0
        · exact h0 i (by omega)
    · rintro σ' H7 ⟨ly, en, z6, z7, z8, rfl, e7, hly7, hen7, h0⟩
      rw [Int.toNat_natCast] at hly7 hen7 h0
      have helt := endS_lt ok hslt g
      refine q_forLn (ev_var rfl) (sq_of hen7) (fun i σ' H' => ∃ sts2 st2 z8, σ' = [some (.ref r), some (nV g), some (.ref st2), some (nV a), some (.ref ly), some (.ref en), z6, z7, z8, y9] ∧ Ex H7 H' ∧ H' st2 = some (.lst (sts2.map nV)) ∧ InvS p g sts2 a ∧ sts2[a]? = some sx ∧ ∀ e ∈ (endS p sx g).take i, rg p e e ∈ sts2)
        (fun H8 e8 => ⟨sts, st, z8, rfl, e8, exu (e7.trans e8) hst4, I, hsx, fun _ z => by simp at z⟩) (fun i σ' H' _ ⟨_, _, _, _, e, _⟩ => sq_of (exu e hen7)) ?_ ?_
      · rintro i x σ' H8 hx ⟨sts2, st2, z8, rfl, e8, hst2, I2, hsx2, hdone⟩
        rw [List.getElem?_map] at hx
        obtain ⟨here, hh, rfl⟩ := Option.map_eq_some_iff.mp hx
        have hmem := List.mem_of_getElem? hh
        have hhl := helt here hmem
        have hR8 := hRx H8 (e7.trans e8)
        have hgr := ev_rule (K := K) ok hR8 (ta := tVar 0) (tb := tVar 8) (tc := tVar 8) (σ := [some (.ref r), some (nV g), some (.ref st2), some (nV a), some (.ref ly), some (.ref en), z6, z7, some (nV here), y9]) (ev_var rfl) (ev_var rfl) (ev_var rfl) hhl hhl
        refine s_when (b := !decide (rg p here here ∈ sts2)) (et_is (et_test (ev_op hgr (ev_var rfl) (rv_niL (sq_of hst2) rfl (flat_nat _)))) (by rw [inV_nat])) (fun hb H9 e9 => ?_) fun hb H9 e9 => ?_
        · have hn : rg p here here ∉ sts2 := by simpa using hb
          have I3 := I2.grow ok (List.mem_of_getElem? hsx2) h0 hmem hn
          have hs2l := I2.len ok
          refine s_asgL (el_cat2L (ev_var rfl) (exu e9 hst2) (el_lst (ea_cons (hgr.mono e9) ea_nil) (by show 1 ≤ _; decide)) (by rw [List.length_map]; show _ + 1 ≤ _; omega)) fun st3 H10 nst3 e10 hst3 => ?_
          refine ⟨sts2 ++ [rg p here here], st3, _, rfl, (e8.trans e9).trans e10, by rw [List.map_append]; exact hst3, I3, ?_, fun e he => ?_⟩
          · rw [List.getElem?_append_left (List.getElem?_eq_some_iff.mp hsx2).1]
            exact hsx2
          · rw [take_snoc hh] at he
            rcases List.mem_append.mp he with z | z
            · exact List.mem_append_left _ (hdone e z)
            · rw [List.mem_singleton.mp z]
              exact List.mem_append_right _ (List.mem_singleton.mpr rfl)
        · have hn : rg p here here ∈ sts2 := by simpa using hb
          refine ⟨sts2, st2, _, rfl, e8.trans e9, exu e9 hst2, I2, hsx2, fun e he => ?_⟩
          rw [take_snoc hh] at he
          rcases List.mem_append.mp he with z | z
          · exact hdone e z
          · rw [List.mem_singleton.mp z]
            exact hn
      · rintro σ' H8 ⟨sts2, st2, z8, rfl, e8, hst2, I2, hsx2, hdone⟩
        rw [List.length_map, List.take_length] at hdone
        have I3 := I2.step hsx2 h0 hdone
        have h3 := I3.len ok
        have hle := I3.le
        refine s_aug rfl ev_c fun H9 e9 => ?_
        exact ⟨5 - (a + 1), by omega, sts2, a + 1, st2, _, _, _, _, _, _, by omega, rfl, (e04.trans e7).trans (e8.trans e9), exu e9 hst2, I3⟩
theorem spv_law_lost {H : Hp} {r : Addr} {p : Plan} {g : Nat} {b : Bool} (hR : RuleAt H r p) (ok : RuleOk p) (hg : g ≤ 100) (h : b = true ↔ LostG p g) : SpV sp_law_lost [.ref r, nV g] H (.bl b) := fun H1 e Q k _ => ⟨r, p, g, rfl, hR.mono e, ok, hg, fun z => by rw [h.mpr z] at k; exact k, fun z => by
  cases b with
  | true => exact absurd (h.mp rfl) z
  | false => exact k⟩
end
end K78

/-! K78x6: _law_walk. -/
namespace K78
open PySem PySem.Spec PyProof.Rows L2 Evl
local macro_rules | `(tactic| walk_at "sq") => `(tactic| first | exact sq_of (by assumption) | assumption)
local macro_rules | `(tactic| walk_at "at") => `(tactic| first | exact atI_nat (by assumption) | assumption)
local macro_rules | `(tactic| walk_at "side") => `(tactic| first | assumption | exact ⟨by decide, by decide⟩ | decide | omega)
local macro_rules | `(tactic| walk_at "rv") => `(tactic| first
  | exact rv_I0
  | exact rv_eq rfl
  | exact rv_ne rfl
  | (refine' rv_ixL ?h ?a; (case h => walk_at "sq"); (case a => walk_at "at"))
  | (refine' rv_I ?c; (case c => walk_at "side")))
local macro_rules | `(tactic| walk_at "ev") => `(tactic| first
  | exact ev_var rfl
  | exact ev_c
  | (refine' ev_isi ?a ?b (.ty _) ?c ?d; (case a => walk_at "ev"); (case b => walk_at "ev"); (case c => first | exact ty_int | exact ty_str | exact ty_lst (by assumption)); (case d => first | exact kit_ty k_ii | exact kit_ty k_ib | exact kit_ty k_si | exact kit_ty k_ll | exact kit_ty k_ss))
  | (refine' ev_op ?a ?b ?c; (case a => walk_at "ev"); (case b => walk_at "ev"); (case c => walk_at "rv"))
  | (refine' ev_un ?a ?b; (case a => walk_at "ev"); (case b => exact ru_neg))
  | (refine' ev_isN ?a; (case a => walk_at "ev"))
  | (refine' ev_notN ?a; (case a => walk_at "ev"))
  | (refine' ev_orV1 (ev_is ?a ?b); (case a => walk_at "ev"); (case b => decide))
  | (refine' ev_andV0 (ev_is ?a ?b); (case a => walk_at "ev"); (case b => decide))
  | (refine' ev_andV ?a ?b; (case a => walk_at "ev"); (case b => intro _; walk_at "ev"))
  | (refine' ev_orV ?a ?b; (case a => walk_at "ev"); (case b => intro _; walk_at "ev"))
  | (refine' ev_notV ?a; (case a => walk_at "ev"))
  | (refine' ev_len ?a ?b; (case a => walk_at "ev"); (case b => walk_at "sq"))
  | (refine' ev_chain ?a ?b ?c ?d ?e; (case a => walk_at "ev"); (case b => walk_at "ev"); (case c => walk_at "rv"); (case d => intro _; walk_at "ev"); (case e => intro _; walk_at "rv")))
local macro_rules | `(tactic| walk_at "et") => `(tactic| first
  | (refine' et_test ?a; (case a => walk_at "ev"))
  | (refine' et_B ?a; (case a => walk_at "ev"))
  | (refine' et_not ?a; (case a => walk_at "et"))
  | (refine' et_or1 (et_is ?a ?b); (case a => walk_at "et"); (case b => decide))
  | (refine' et_and0 (et_is ?a ?b); (case a => walk_at "et"); (case b => decide))
  | (refine' et_and ?a ?b; (case a => walk_at "et"); (case b => intro _; walk_at "et"))
  | (refine' et_or ?a ?b; (case a => walk_at "et"); (case b => intro _; walk_at "et")))
section
variable {P : Program} {w : World} {K : PySem.W.Frag} {mg : Str → Option Value} {base : Heap}
section
variable {σ : L2.St} {H : Hp} {D : Ends}
theorem s_par {i j : Nat} {tr : TA} {x y : V} (h : EvA tr σ H [x, y]) (k : ∀ H1, Ex H H1 → D.nx ((σ.set i (some x)).set j (some y)) H1) : tPar i j tr D σ H := h H (Ex.refl H) _ fun H1 e => ⟨x, y, rfl, k H1 e⟩
end
def sp_law_walk : Sp := fun vs H Q _ => ∃ (r : Addr) (p : Plan) (q : Nat) (a : Addr) (its : List It) (g : Option Nat), vs = [.ref r, nV q, .ref a, oV g] ∧ RuleAt H r p ∧ RuleOk p ∧ q < p.length ∧ H a = some (.lst (its.map itV)) ∧ its.length ≤ 1000 ∧ (∀ i ∈ its, ItOk p i) ∧ RetV (.bl (wk p g q 0 its)) H Q
theorem hit_test (x : It) (h : Nat) : decide (itV x = nV h) = decide (x = .hit h) := by
  cases x with
  | miss => rfl
  | own => rfl
  | hit n =>
    refine decide_eq_decide.mpr ⟨fun z => ?_, fun z => ?_⟩
    · have : n = h := Int.ofNat.inj (V.int.inj z)
      rw [this]
    · cases z
      rfl
theorem scal_hit (x : It) (h : Nat) : scal (itV x) (nV h) = true := by
  cases x <;> rfl
theorem ok_law_walk (T : Tx K mg) : FnOk P w K mg base CX0 1 T.a_law_walk T.d_law_walk ["_law_plan", "_law_place", "_law_calls", "_law_gap"] sp_law_walk := by
  refine T.h_law_walk.F.ok sc_law_walk (fun vs H Q E h => ?_) (fun cdv A outer s H vs Q E hr h => ?_)
  · obtain ⟨r, p, q, a, its, g, rfl, _⟩ := h
    rfl
  · obtain ⟨r, p, q, a, its, g, rfl, hR, ok, hq, ha, hz, hok, k⟩ := h
    refine ⟨_, (pss_cons (ps_par (i := 4) (j := 5) (by rfl) sc_law_walk.nd rfl rfl (by decide) rfl rfl (pa_cons (pv 1) (pa_cons pe_int pa_nil)) (by rfl))
      (pss_cons (ps_for PassesOwn.never rfl (pi_range1 rfl T.z_range (pa_cons (pe_callB (call_len_seqK (K := K) rfl) (by rfl) T.z_len PySem.boot_len (pa_cons (pv 2) pa_nil)) pa_nil)) (pg_name (i := 6) sc_law_walk.nd rfl (.inl rfl))
      (pss_cons (ps_set (i := 7) sc_law_walk.nd rfl (.inl rfl) (pe_ix (ix_listK (K := K) rfl) (pv 2) (pv 6) (fun _ _ => rfl)))
      (pss_one (ps_if (pt_cmpR op_eq (pv 7) pe_str (nomark _))
      (pss_cons (ps_if (pt_cmp (pc_isN (pv 3)))
      (pss_one (ps_ret pe_bl))
      pss_nil)
      (pss_one (ps_par (i := 4) (j := 5) (by rfl) sc_law_walk.nd rfl rfl (by decide) rfl rfl (pa_cons (pe_ix (ix_listK (K := K) rfl) (pe_ix (ix_listK (K := K) rfl) (pv 0) (pv 4) (fun _ _ => rfl)) (pv 4) (fun _ _ => rfl)) (pa_cons pe_int pa_nil)) (by rfl))))
      (pss_cons (ps_aug (i := 5) sc_law_walk.nd rfl (.inl rfl) pe_int ip_add)
      (pss_cons (ps_if (PW.pt (pw_or (pt_cmpR op_eq (pv 7) (pv 4) (nomark _)) (pw_or1 (PW.pt (pw_and (pt_cmp (pc_notN (pv 3))) (pw_and1 (pt_cmpR op_gt (pv 5) (pv 3) (nomark _))))))))
      (pss_one (ps_ret pe_bl))
      pss_nil)
      (pss_cons (ps_if (PW.pt (pw_and (pt_cmp (pc_isN (pv 7))) (pw_and1 (pt_cmpR op_eq (pv 4) pe_int (nomark _)))))
      (pss_one (ps_ret (pe_cmpR op_eq (pv 6) (pe_op op_sub (pe_callB (call_len_seqK (K := K) rfl) (by rfl) T.z_len PySem.boot_len (pa_cons (pv 2) pa_nil)) pe_int) (nomark _))))
      pss_nil)
      (pss_one (ps_set (i := 4) sc_law_walk.nd rfl (.inl rfl) (pe_ifExp (pt_cmp (pc_isN (pv 7))) (pe_op op_sub (pv 4) pe_int) (pe_ix (ix_listK (K := K) rfl) (pe_ix (ix_listK (K := K) rfl) (pv 0) (pv 7) (fun _ _ => rfl)) (pv 4) (fun _ _ => rfl))))))))))))
      (pss_one (ps_ret pe_bl)))), ?_⟩
    refine q_par (ea_cons (ev_var rfl) (ea_cons ev_c ea_nil)) fun H1 e1 => ?_
    have ha1 := exu e1 ha
    refine q_forR (n := its.length) (ea_cons (ev_is (ev_len (ev_var rfl) (sq_of ha1)) (by rw [List.length_map])) ea_nil) (by omega) (fun i σ => ∃ h m y6 y7, σ = [some (.ref r), some (nV q), some (.ref a), some (oV g), some (nV h), some (nV m), y6, y7] ∧ h < p.length ∧ wk p g q 0 its = wk p g h m (its.drop i)) ⟨q, 0, none, none, rfl, hq, rfl⟩ ?_ ?_
    · rintro N i σ' H2 hi ⟨h, m, y6, y7, rfl, hh, hw⟩ e2 hN
      have hx : its[i]? = some its[i] := List.getElem?_eq_getElem hi
      obtain ⟨x, ex⟩ : ∃ x, its[i] = x := ⟨_, rfl⟩
      rw [ex] at hx
      have hxm := List.mem_of_getElem? hx
      have edrop : its.drop i = x :: its.drop (i + 1) := (List.drop_eq_getElem_cons hi).trans (by rw [ex])
      rw [edrop] at hw
      have ha2 := exu e2 ha1
      have e12 := e1.trans e2
      have gcall : ∀ σ : L2.St, σ[2]? = some (some (.ref a)) → σ[6]? = some (some (nV i)) → Ev (tOp (rIxL K) (tVar 2) (tVar 6)) σ H2 (itV x) := fun σ s2 s6 => ev_op (ev_var s2) (ev_var s6) (rv_ixL (sq_of ha2) (atI_nat (by rw [List.getElem?_map, hx]; rfl)))
      refine q_asg (gcall _ rfl rfl) fun H3 e3 => ?_
      have e13 := e12.trans e3
      refine s_if (b := decide (x = .own)) (et_is (et_test (ev_op (ev_var rfl) ev_c (rv_eq (scal_item x)))) (own_test x)) (fun hb H4 e4 => ?_) fun hb H4 e4 => ?_
      · have hb' := of_decide_eq_true hb
        subst hb'
        cases g with
        | none =>
          refine q_when (b := true) (et_is (et_B (ev_isN (ev_var rfl))) (by rfl)) (fun _ H5 e5 => ?_) fun z => Bool.noConfusion z
          have hw : wk p none q 0 its = false := hw
          rw [hw] at k
          exact s_retV rfl ev_c fun H6 e6 => k H6 (((e13.trans e4).trans e5).trans e6)
        | some g =>
          refine q_ifno (et_is (et_B (ev_isN (ev_var rfl))) (by rfl)) fun H5 e5 => ?_
          refine s_par (ea_cons (ev_rule ok (hR.mono ((e13.trans e4).trans e5)) (ev_var rfl) (ev_var rfl) (ev_var rfl) hh hh) (ea_cons ev_c ea_nil)) fun H6 e6 => ?_
          exact hN _ _ ⟨rg p h h, 0, _, _, rfl, ok.rg_lt hh hh, hw⟩ ((e3.trans e4).trans (e5.trans e6))
      · have hb' : x ≠ .own := of_decide_eq_false hb
        refine q_aug rfl ev_c fun H5 e5 => ?_
        have e15 := (e13.trans e4).trans e5
        have hov : EvT (tAnd (tB (tNotN (tVar 3))) (tTest (tOp (rI0 fun i j => .bl (decide (j < i))) (tVar 5) (tVar 3)))) [some (.ref r), some (nV q), some (.ref a), some (oV g), some (nV h), some (nV (m + 1)), some (nV i), some (itV x)] H5 (over g (m + 1)) := by
          cases g with
          | none => exact et_is (et_and0 (et_is (et_B (ev_notN (ev_var rfl))) (by rfl))) (by rfl)
          | some g =>
            refine et_is (et_and (et_B (ev_notN (ev_var rfl))) fun _ => et_test (ev_op (ev_var rfl) (ev_var rfl) rv_I0)) ?_
            show (!decide (nV g = V.non) && decide ((g : Int) < ((m + 1 : Nat) : Int))) = decide (g < m + 1)
            rw [show decide (nV g = V.non) = false from rfl]
            exact (Bool.true_and _).trans (decide_eq_decide.mpr (by omega))
        refine q_when (b := decide (x = .hit h) || over g (m + 1)) (et_or (et_is (et_test (ev_op (ev_var rfl) (ev_var rfl) (rv_eq (scal_hit x h)))) (hit_test x h)) fun _ => hov) (fun hb2 H6 e6 => ?_) fun hb2 H6 e6 => ?_
        · have hf : wk p g q 0 its = false := by
            rw [hw]
            cases x with
            | own => exact absurd rfl hb'
            | miss =>
              have ho : over g (m + 1) = true := by simpa using hb2
              show (if _ then _ else _) = false
              rw [if_pos ho]
            | hit n =>
              have ho : n = h ∨ over g (m + 1) = true := by simpa using hb2
              show (if _ then _ else _) = false
              rw [if_pos ho]
          rw [hf] at k
          exact s_retV rfl ev_c fun H7 e7 => k H7 ((e15.trans e6).trans e7)
        · have e16 := e15.trans e6
          have eN := ((e3.trans e4).trans e5).trans e6
          cases x with
          | own => exact absurd rfl hb'
          | miss =>
            have ho : ¬ over g (m + 1) = true := by simpa using hb2
            have hw2 : wk p g q 0 its = if h = 0 then (its.drop (i + 1)).isEmpty else wk p g (h - 1) (m + 1) (its.drop (i + 1)) := by
              rw [hw]
              show (if _ then _ else _) = _
              rw [if_neg ho]
            refine q_when (b := decide (h = 0)) (et_is (et_and (et_is (et_B (ev_isN (ev_var rfl))) (by rfl) : EvT _ _ H6 true) fun _ => et_test (ev_op (ev_var rfl) ev_c (rv_eq rfl))) ?_) (fun hb3 H7 e7 => ?_) fun hb3 H7 e7 => ?_
            · exact (Bool.true_and _).trans (decide_eq_decide.mpr ⟨fun z => Int.ofNat.inj (V.int.inj z), fun z => by rw [z]; rfl⟩)
            · have h0 := of_decide_eq_true hb3
              rw [if_pos h0] at hw2
              refine s_retV rfl (ev_is (ev_op (ev_var rfl) (ev_op (ev_len (ev_var rfl) (sq_of (exu (((e3.trans e4).trans e5).trans (e6.trans e7)) ha2))) ev_c rv_I0) (rv_eq rfl)) ?_) fun H8 e8 => k H8 ((e16.trans e7).trans e8)
              rw [hw2, List.length_map]
              congr 1
              have he : (its.drop (i + 1)).isEmpty = decide (i + 1 = its.length) := by
                by_cases c : i + 1 = its.length
                · rw [decide_eq_true c, List.drop_of_length_le (by omega)]
                  rfl
                · rw [decide_eq_false c]
                  have : 0 < (its.drop (i + 1)).length := by
                    rw [List.length_drop]
                    omega
                  cases hl : its.drop (i + 1) with
                  | nil =>
                    rw [hl] at this
                    exact absurd this (Nat.lt_irrefl 0)
                  | cons _ _ => rfl
              rw [he]
              exact decide_eq_decide.mpr ⟨fun z => by have := V.int.inj z; omega, fun z => congrArg V.int (show ((i : Nat) : Int) = ((its.length : Nat) : Int) - 1 by omega)⟩
            · have h0 := of_decide_eq_false hb3
              rw [if_neg h0] at hw2
              refine s_asg (ev_if (b := true) (et_is (et_B (ev_isN (ev_var rfl))) (by rfl)) (fun _ => ev_is (ev_op (ev_var rfl) ev_c rv_I0) (pred_V h0)) fun z => Bool.noConfusion z) fun H8 e8 => ?_
              exact hN _ _ ⟨h - 1, m + 1, _, _, rfl, by omega, hw2⟩ (eN.trans (e7.trans e8))
          | hit n =>
            have ho : ¬ (n = h ∨ over g (m + 1) = true) := fun z => by
              rcases z with z | z
              · rw [z] at hb2
                simp at hb2
              · rw [z, Bool.or_true] at hb2
                exact Bool.noConfusion hb2
            have hn : n < p.length := hok _ hxm n rfl
            have hw2 : wk p g q 0 its = wk p g (rg p n h) (m + 1) (its.drop (i + 1)) := by
              rw [hw]
              show (if _ then _ else _) = _
              rw [if_neg ho]
            refine q_ifno (et_is (et_and0 (et_is (et_B (ev_isN (ev_var rfl))) (by rfl))) (by rfl)) fun H7 e7 => ?_
            refine s_asg (ev_if (b := false) (et_is (et_B (ev_isN (ev_var rfl))) (by rfl)) (fun z => Bool.noConfusion z) fun _ => ev_rule ok (hR.mono (e16.trans e7)) (ev_var rfl) (ev_var rfl) (ev_var rfl) hn hh) fun H8 e8 => ?_
            exact hN _ _ ⟨rg p n h, m + 1, _, _, rfl, ok.rg_lt hn hh, hw2⟩ (eN.trans (e7.trans e8))
    · rintro σ' H2 ⟨h, m, y6, y7, rfl, hh, hw⟩ e2
      rw [List.drop_length] at hw
      have hw : wk p g q 0 its = false := hw
      rw [hw] at k
      exact s_retV rfl ev_c fun H3 e3 => k H3 ((e1.trans e2).trans e3)
theorem spv_walk {H : Hp} {r a : Addr} {p : Plan} {q : Nat} {its : List It} {g : Option Nat} (hR : RuleAt H r p) (ok : RuleOk p) (hq : q < p.length) (ha : H a = some (.lst (its.map itV))) (hz : its.length ≤ 1000) (hok : ∀ i ∈ its, ItOk p i) : SpV sp_law_walk [.ref r, nV q, .ref a, oV g] H (.bl (wk p g q 0 its)) :=
  fun H1 e Q k _ => ⟨r, p, q, a, its, g, rfl, hR.mono e, ok, hq, exu e ha, hz, hok, k⟩
end
end K78

/-! K78x7: _law_keeping_right. -/
namespace K78
open PySem PySem.Spec PyProof.Rows L2 Evl
local macro_rules | `(tactic| walk_at "sq") => `(tactic| first | exact sq_of (by assumption) | assumption)
local macro_rules | `(tactic| walk_at "at") => `(tactic| first | exact atI_nat (by assumption) | assumption)
local macro_rules | `(tactic| walk_at "side") => `(tactic| first | assumption | exact ⟨by decide, by decide⟩ | decide | omega)
local macro_rules | `(tactic| walk_at "rv") => `(tactic| first
  | exact rv_I0
  | exact rv_eq rfl
  | exact rv_ne rfl
  | (refine' rv_ixL ?h ?a; (case h => walk_at "sq"); (case a => walk_at "at"))
  | (refine' rv_I ?c; (case c => walk_at "side")))
local macro_rules | `(tactic| walk_at "ev") => `(tactic| first
  | exact ev_var rfl
  | exact ev_c
  | (refine' ev_isi ?a ?b (.ty _) ?c ?d; (case a => walk_at "ev"); (case b => walk_at "ev"); (case c => first | exact ty_int | exact ty_str | exact ty_lst (by assumption)); (case d => first | exact kit_ty k_ii | exact kit_ty k_ib | exact kit_ty k_si | exact kit_ty k_ll | exact kit_ty k_ss))
  | (refine' ev_op ?a ?b ?c; (case a => walk_at "ev"); (case b => walk_at "ev"); (case c => walk_at "rv"))
  | (refine' ev_un ?a ?b; (case a => walk_at "ev"); (case b => exact ru_neg))
  | (refine' ev_isN ?a; (case a => walk_at "ev"))
  | (refine' ev_notN ?a; (case a => walk_at "ev"))
  | (refine' ev_orV1 (ev_is ?a ?b); (case a => walk_at "ev"); (case b => decide))
  | (refine' ev_andV0 (ev_is ?a ?b); (case a => walk_at "ev"); (case b => decide))
  | (refine' ev_andV ?a ?b; (case a => walk_at "ev"); (case b => intro _; walk_at "ev"))
  | (refine' ev_orV ?a ?b; (case a => walk_at "ev"); (case b => intro _; walk_at "ev"))
  | (refine' ev_notV ?a; (case a => walk_at "ev"))
  | (refine' ev_len ?a ?b; (case a => walk_at "ev"); (case b => walk_at "sq"))
  | (refine' ev_chain ?a ?b ?c ?d ?e; (case a => walk_at "ev"); (case b => walk_at "ev"); (case c => walk_at "rv"); (case d => intro _; walk_at "ev"); (case e => intro _; walk_at "rv")))
local macro_rules | `(tactic| walk_at "et") => `(tactic| first
  | (refine' et_test ?a; (case a => walk_at "ev"))
  | (refine' et_B ?a; (case a => walk_at "ev"))
  | (refine' et_not ?a; (case a => walk_at "et"))
  | (refine' et_or1 (et_is ?a ?b); (case a => walk_at "et"); (case b => decide))
  | (refine' et_and0 (et_is ?a ?b); (case a => walk_at "et"); (case b => decide))
  | (refine' et_and ?a ?b; (case a => walk_at "et"); (case b => intro _; walk_at "et"))
  | (refine' et_or ?a ?b; (case a => walk_at "et"); (case b => intro _; walk_at "et")))
section
variable {P : Program} {w : World} {K : PySem.W.Frag} {mg : Str → Option Value} {base : Heap}
section
variable {σ : L2.St} {H : Hp} {ta tb te : TE} {b : Addr} {D : Ends} {tz : TS}
theorem evd_lcRD {R : Hp → V → Nat → Prop} {n j : Nat} {vs : List Nat} (stab : ∀ H H' v i, (∀ a o, v = .ref a → H a = some o → H' a = some o) → R H v i → R H' v i)
    (h : EvD b ta σ H (fun v _ => ∃ d : Nat, d < n ∧ v = nV d)) (hz : n ≤ 1000) (hw : ∀ x, wipe ((wipe σ vs).set j (some x)) vs = wipe σ vs)
    (he : ∀ i, i < n → ∀ H1, Ex (del H b) H1 → BagAt H1 b → EvD b te ((wipe σ vs).set j (some (nV i))) H1 (fun v H' => R H' v i ∧ ∀ a, v = .ref a → H1 a = none)) :
    EvD b (tLc (iRng1 (tCons ta tNil)) (gName j) tYes te vs) σ H (fun v H' => ∃ l ws, v = .ref l ∧ l ≠ b ∧ H' l = some (.lst ws) ∧ ws.length ≤ n ∧ ∀ (i : Nat) v, ws[i]? = some v → R H' v i ∧ ∀ a, v = .ref a → a ≠ b) := fun H0 e0 hb0 Q q =>
  h H0 e0 hb0 _ fun v H1 e1 hb1 ⟨d, hd, ev⟩ => by
    subst ev
    have e01 := (ex_del2 e0).trans e1
    exact (evd_lcR (R := R) (H := H) (b := b) (tl := tCons (tC (nV d)) tNil) stab (ea_cons ev_c ea_nil) (by omega) hw fun i hi H2 e2 hb2 => he i (by omega) H2 e2 hb2) H1 e01 hb1 Q fun v H2 e2 hb2 ⟨l, ws, q1, q2, q3, q4, q5⟩ => q v H2 ((ex_del2 e1).trans e2) hb2 ⟨l, ws, q1, q2, q3, by omega, q5⟩
theorem evd_lst3 {n : Nat} {x y : V} (h : EvD b te σ H (fun v _ => ∃ d : Nat, d < n ∧ v = nV d)) : EvD b (tLst (tCons (tC x) (tCons (tC y) (tCons te tNil)))) σ H (fun v H' => ∃ l xs, v = .ref l ∧ l ≠ b ∧ H' l = some (.lst xs) ∧ ∃ d : Nat, d < n ∧ xs = [x, y, nV d]) := fun H1 e hb Q q =>
  h H1 e hb _ fun v H2 e2 hb2 ⟨d, hd, ev⟩ => by
    subst ev
    exact ⟨by show 3 ≤ sizeLine; decide, fun l nl => q _ _ (e2.trans (Ex.new nl)) (hb2.mono (Ex.new nl)) ⟨l, _, rfl, bag_ne hb2 nl, upd_same, d, hd, rfl⟩⟩
theorem evd_lst2 {n : Nat} {x : V} (h : EvD b te σ H (fun v _ => ∃ d : Nat, d < n ∧ v = nV d)) : EvD b (tLst (tCons (tC x) (tCons te tNil))) σ H (fun v H' => ∃ l xs, v = .ref l ∧ l ≠ b ∧ H' l = some (.lst xs) ∧ ∃ d : Nat, d < n ∧ xs = [x, nV d]) := fun H1 e hb Q q =>
  h H1 e hb _ fun v H2 e2 hb2 ⟨d, hd, ev⟩ => by
    subst ev
    exact ⟨by show 2 ≤ sizeLine; decide, fun l nl => q _ _ (e2.trans (Ex.new nl)) (hb2.mono (Ex.new nl)) ⟨l, _, rfl, bag_ne hb2 nl, upd_same, d, hd, rfl⟩⟩
theorem evd_ixD {n : Nat} {Pl : List V → Prop} (h1 : EvD b ta σ H (fun v H' => ∃ l xs, v = .ref l ∧ l ≠ b ∧ H' l = some (.lst xs) ∧ Pl xs)) (h : EvD b tb σ H (fun v _ => ∃ d : Nat, d < n ∧ v = nV d)) (hn : ∀ xs, Pl xs → n ≤ xs.length) : EvD b (tOp (rIxL K) ta tb) σ H (fun v _ => ∃ xs, Pl xs ∧ v ∈ xs) := fun H1 e hb Q q =>
  h1 H1 e hb _ fun v1 H2 e2 hb2 ⟨l, xs, ev1, lb, hl, hp⟩ => h H2 ((ex_del2 e).trans e2) hb2 _ fun v H3 e3 hb3 ⟨d, hd, ev⟩ => by
    subst ev1
    subst ev
    have hd' : d < xs.length := Nat.lt_of_lt_of_le hd (hn xs hp)
    exact ⟨l, xs, (d : Int), xs[d], rfl, rfl, sq_of (e3 _ _ (del_put hl lb)), atI_nat (List.getElem?_eq_getElem hd'), q _ H3 ((ex_del2 e2).trans e3) hb3 ⟨xs, hp, List.getElem_mem hd'⟩⟩
theorem rv_notB {x y : Bool} : RV rNotB (.bl x) (.bl y) H (.bl (!decide (x = y))) := fun H1 _ _ q => ⟨x, y, rfl, rfl, q H1 (Ex.refl H1)⟩
end
def ItmP (p : Plan) (H : Hp) (v : V) (i : Nat) : Prop := ∃ it : It, v = itV it ∧ ItOk p it
theorem of_items {p : Plan} : ∀ {ws : List V}, (∀ (i : Nat) v, ws[i]? = some v → ∃ it : It, v = itV it ∧ ItOk p it) → ∃ its : List It, ws = its.map itV ∧ ∀ i ∈ its, ItOk p i
  | [], _ => ⟨[], rfl, fun _ z => nomatch z⟩
  | v :: ws, h => by
    obtain ⟨it, rfl, hi⟩ := h 0 v rfl
    obtain ⟨its, rfl, hs⟩ := of_items (ws := ws) fun i v hv => h (i + 1) v (by simpa using hv)
    refine ⟨it :: its, rfl, fun x hx => ?_⟩
    rcases List.mem_cons.mp hx with z | z
    · rw [z]
      exact hi
    · exact hs x z
theorem spp_way {H : Hp} {r : Addr} {p : Plan} {q : Nat} (hR : RuleAt H r p) (ok : RuleOk p) (hq : q < p.length) : SpP sp_way_out [.ref r, nV q] H (OutP p q) := fun H1 e Q k _ => ⟨r, p, q, rfl, hR.mono e, ok, hq, k⟩
theorem spv_life {H : Hp} {r : Addr} {p : Plan} {q t : Nat} (hR : RuleAt H r p) (ok : RuleOk p) (hq : q < p.length) (ht : IsD p q t) : SpV sp_life [.ref r, nV q] H (nV (t + 1)) := fun H1 e Q k _ => ⟨r, p, q, t, rfl, hR.mono e, ok, hq, ht, k⟩
theorem spv_keeps {H : Hp} {r : Addr} {p : Plan} {b : Nat} (hR : RuleAt H r p) (ok : RuleOk p) (B : Best p b) : SpV sp_keeps [.ref r] H (nV b) := fun H1 e Q k _ => ⟨r, p, b, rfl, hR.mono e, ok, B, k⟩
theorem spv_is_way {H : Hp} {r a : Addr} {p : Plan} {q : Nat} {its : List It} (hR : RuleAt H r p) (ok : RuleOk p) (hq : q < p.length) (ha : H a = some (.lst (its.map itV))) (hz : its.length ≤ 1000) : SpV sp_is_way_out [.ref r, nV q, .ref a] H (.bl (noOwn its && decide (pb p (some q) its = some none))) :=
  fun H1 e Q k _ => ⟨r, p, q, a, its, rfl, hR.mono e, ok, hq, exu e ha, hz, k⟩
theorem spv_is_lost {H : Hp} {r a : Addr} {p : Plan} {g : Nat} {its : List It} (hR : RuleAt H r p) (ok : RuleOk p) (hg : g ≤ 100) (ha : H a = some (.lst (its.map itV))) (hz : its.length ≤ 1000) : SpV sp_is_lost_way [.ref r, nV g, .ref a] H (.bl (decide (pb p (some (p.length - 1)) its = some none) && decide ((mo its).2 ≤ g))) :=
  fun H1 e Q k _ => ⟨r, p, g, a, its, rfl, hR.mono e, ok, hg, exu e ha, hz, k⟩
theorem spp_lostW {H : Hp} {r : Addr} {p : Plan} {g : Nat} (hR : RuleAt H r p) (ok : RuleOk p) (hg : g ≤ 100) : SpP sp_lost_way [.ref r, nV g] H (fun v H' => (¬ LostG p g ∧ v = .non) ∨ (LostG p g ∧ LostP p g v H')) :=
  fun H1 e Q k _ => ⟨r, p, g, rfl, hR.mono e, ok, hg, fun n H2 e2 => k _ H2 e2 (.inl ⟨n, rfl⟩), fun n v H2 e2 hv => k v H2 e2 (.inr ⟨n, hv⟩)⟩
def sp_law_keeping_right : Sp := fun vs H Q _ => ∃ (b r : Addr) (p : Plan), vs = [.ref b, .ref r] ∧ BagAt H b ∧ RuleAt (del H b) r p ∧ RuleOk p ∧ ∀ H', Ex (del H b) H' → Q (.bl true) H'
theorem ok_law_keeping_right (T : Tx K mg) : FnOk P w K mg base CX0 5 T.a_law_keeping_right T.d_law_keeping_right ["_law_bag_here", "_law_plan"] sp_law_keeping_right := by
  refine T.h_law_keeping_right.F.ok sc_law_keeping_right (fun vs H Q E h => ?_) (fun cdv A outer s H vs Q E hr h => ?_)
  · obtain ⟨b, r, p, rfl, _⟩ := h
    rfl
  · obtain ⟨b, r, p, rfl, hb, hR, ok, k⟩ := h
    have h2 := ok.lo
    have h5 := ok.hi
    refine ⟨_, (pss_cons (ps_set (i := 2) sc_law_keeping_right.nd rfl (.inr rfl) (pe_callB (call_len_seqK (K := K) rfl) (by rfl) T.z_len PySem.boot_len (pa_cons (pv 1) pa_nil)))
      (pss_cons (ps_set (i := 3) sc_law_keeping_right.nd rfl (.inl rfl) (pe_call (ok_law_draw T) (hr.mono (by decide)) (by rfl) T.h_law_draw.g T.h_law_draw.kp T.h_law_draw.b .nil pass0 (pa_cons (pv 0) (pa_cons (pv 2) pa_nil))))
      (pss_cons (ps_set (i := 4) sc_law_keeping_right.nd rfl (.inl rfl) (pe_call (ok_way_out T) (hr.mono (by decide)) (by rfl) T.h_way_out.g T.h_way_out.kp T.h_way_out.b .nil pass0 (pa_cons (pv 1) (pa_cons (pv 3) pa_nil))))
      (pss_cons (ps_if (PW.pt (pw_or (pt_cmpR op_ne (pe_call (ok_life T) (hr.mono (by decide)) (by rfl) T.h_life.g T.h_life.kp T.h_life.b .nil pass0 (pa_cons (pv 1) (pa_cons (pv 3) pa_nil))) (pe_call (ok_law_life T) (hr.mono (by decide)) (by rfl) T.h_law_life.g T.h_law_life.kp T.h_law_life.b .nil pass0 (pa_cons (pv 1) (pa_cons (pv 3) pa_nil))) (nomark _)) (pw_or1 (pt_cmpR op_ne (pe_callB (call_len_seqK (K := K) rfl) (by rfl) T.z_len PySem.boot_len (pa_cons (pv 4) pa_nil)) (pe_call (ok_life T) (hr.mono (by decide)) (by rfl) T.h_life.g T.h_life.kp T.h_life.b .nil pass0 (pa_cons (pv 1) (pa_cons (pv 3) pa_nil))) (nomark _)))))
      (pss_one (ps_ret pe_bl))
      pss_nil)
      (pss_cons (ps_if (PW.pt (pw_or (pt_not (pt_val (pe_call (ok_law_walk T) (hr.mono (by decide)) (by rfl) T.h_law_walk.g T.h_law_walk.kp T.h_law_walk.b .nil pass0 (pa_cons (pv 1) (pa_cons (pv 3) (pa_cons (pv 4) (pa_cons pe_non pa_nil))))))) (pw_or1 (pt_cmpR op_notBl (pe_call (ok_is_way_out T) (hr.mono (by decide)) (by rfl) T.h_is_way_out.g T.h_is_way_out.kp T.h_is_way_out.b .nil pass0 (pa_cons (pv 1) (pa_cons (pv 3) (pa_cons (pv 4) pa_nil)))) pe_bl (nomark _)))))
      (pss_one (ps_ret pe_bl))
      pss_nil)
      (pss_cons (ps_set (i := 5) sc_law_keeping_right.nd rfl (.inl rfl) (pe_call (ok_keeps T) (hr.mono (by decide)) (by rfl) T.h_keeps.g T.h_keeps.kp T.h_keeps.b .nil pass0 (pa_cons (pv 1) pa_nil)))
      (pss_cons (ps_if (pt_cmpR (op_neD hr.units) (pe_lc (own := [("_law_gap", 6)]) (g := gName 6) rfl sc_law_keeping_right.nd (pi_range1 rfl T.z_range (pa_cons (pe_op op_add (pv 2) pe_int) pa_nil)) (blkOk_by (own := [("_law_gap", 6)]) (N := ["_law_bag_here", "_law_plan", "_law_many", "_law_place", "_law_told", "_law_best", "_law_gap", "_law_calls", "_law_k"]) (sc := defScope s_law_keeping_right) (by decide +kernel)) (fun _ _ _ _ _ => pg_name (i := 6) sc_law_keeping_right.nd rfl (.inl rfl)) (fun _ _ _ _ _ => pts_one (pt_val (pe_call (ok_law_lost T) (hr.mono (by decide)) (by rfl) T.h_law_lost.g T.h_law_lost.kp T.h_law_lost.b .nil pass0 (pa_cons (pv 1) (pa_cons (pv 6) pa_nil))))) (fun _ _ _ _ _ => (pv 6))) (pe_listRg rfl rfl T.z_list (prg_2 rfl T.z_range (pe_op op_add (pv 5) pe_int) (pe_op op_add (pv 2) pe_int))) (nomark _))
      (pss_one (ps_ret pe_bl))
      pss_nil)
      (pss_cons (ps_set (i := 6) sc_law_keeping_right.nd rfl (.inl rfl) (pe_call (ok_law_draw T) (hr.mono (by decide)) (by rfl) T.h_law_draw.g T.h_law_draw.kp T.h_law_draw.b .nil pass0 (pa_cons (pv 0) (pa_cons (pe_op op_add (pv 2) pe_int) pa_nil))))
      (pss_cons (ps_set (i := 4) sc_law_keeping_right.nd rfl (.inl rfl) (pe_call (ok_lost_way T) (hr.mono (by decide)) (by rfl) T.h_lost_way.g T.h_lost_way.kp T.h_lost_way.b .nil pass0 (pa_cons (pv 1) (pa_cons (pv 6) pa_nil))))
      (pss_cons (ps_if (pt_cmpR op_ne (pe_cmp (pc_isN (pv 4)) rfl) (pe_cmpR op_le (pv 6) (pv 5) (nomark _)) (nomark _))
      (pss_one (ps_ret pe_bl))
      pss_nil)
      (pss_cons (ps_if (pt_cmp (pc_notN (pv 4)))
      (pss_one (ps_if (PW.pt (pw_or (pt_not (pt_val (pe_call (ok_law_walk T) (hr.mono (by decide)) (by rfl) T.h_law_walk.g T.h_law_walk.kp T.h_law_walk.b .nil pass0 (pa_cons (pv 1) (pa_cons (pe_op op_sub (pv 2) pe_int) (pa_cons (pv 4) (pa_cons (pv 6) pa_nil))))))) (pw_or1 (pt_cmpR op_notBl (pe_call (ok_is_lost_way T) (hr.mono (by decide)) (by rfl) T.h_is_lost_way.g T.h_is_lost_way.kp T.h_is_lost_way.b .nil pass0 (pa_cons (pv 1) (pa_cons (pv 6) (pa_cons (pv 4) pa_nil)))) pe_bl (nomark _)))))
      (pss_one (ps_ret pe_bl))
      pss_nil))
      pss_nil)
      (pss_cons (ps_setLc (i := 7) (own := [("_law_k", 8)]) (g := gName 8) (tt := tYes) rfl sc_law_keeping_right.nd rfl rfl (sw_true rfl rfl rfl (by decide +kernel)) (pi_range1 rfl T.z_range (pa_cons (pe_call (ok_law_draw T) (hr.mono (by decide)) (by rfl) T.h_law_draw.g T.h_law_draw.kp T.h_law_draw.b .nil pass0 (pa_cons (pv 0) (pa_cons pe_int pa_nil))) pa_nil)) (blkOk_by (own := [("_law_k", 8)]) (N := ["_law_bag_here", "_law_plan", "_law_many", "_law_place", "_law_told", "_law_best", "_law_gap", "_law_calls", "_law_k"]) (sc := defScope s_law_keeping_right) (by decide +kernel)) (fun _ _ _ _ _ => pg_name (i := 8) sc_law_keeping_right.nd rfl (.inl rfl)) (fun _ _ _ _ _ => pts_nil) (fun _ _ _ _ _ => (pe_ix (ix_listK (K := K) rfl) (pe_lst (pa_cons pe_non (pa_cons pe_str (pa_cons (pe_call (ok_law_draw T) (hr.mono (by decide)) (by rfl) T.h_law_draw.g T.h_law_draw.kp T.h_law_draw.b .nil pass0 (pa_cons (pv 0) (pa_cons (pv 2) pa_nil))) pa_nil)))) (pe_call (ok_law_draw T) (hr.mono (by decide)) (by rfl) T.h_law_draw.g T.h_law_draw.kp T.h_law_draw.b .nil pass0 (pa_cons (pv 0) (pa_cons pe_int pa_nil))) (fun _ _ => rfl))))
      (pss_cons (ps_if (pt_cmpR op_ne (pe_call (ok_is_lost_way T) (hr.mono (by decide)) (by rfl) T.h_is_lost_way.g T.h_is_lost_way.kp T.h_is_lost_way.b .nil pass0 (pa_cons (pv 1) (pa_cons (pv 6) (pa_cons (pv 7) pa_nil)))) (pe_call (ok_law_walk T) (hr.mono (by decide)) (by rfl) T.h_law_walk.g T.h_law_walk.kp T.h_law_walk.b .nil pass0 (pa_cons (pv 1) (pa_cons (pe_op op_sub (pv 2) pe_int) (pa_cons (pv 7) (pa_cons (pv 6) pa_nil))))) (nomark _))
      (pss_one (ps_ret pe_bl))
      pss_nil)
      (pss_one (ps_ret (pe_cmpR op_eq (pe_call (ok_is_way_out T) (hr.mono (by decide)) (by rfl) T.h_is_way_out.g T.h_is_way_out.kp T.h_is_way_out.b .nil pass0 (pa_cons (pv 1) (pa_cons (pv 3) (pa_cons (pv 7) pa_nil)))) (pe_call (ok_law_walk T) (hr.mono (by decide)) (by rfl) T.h_law_walk.g T.h_law_walk.kp T.h_law_walk.b .nil pass0 (pa_cons (pv 1) (pa_cons (pv 3) (pa_cons (pv 7) (pa_cons pe_non pa_nil))))) (nomark _))))))))))))))))), ?_⟩
    refine q_asg (len_rule (hR.mono del_ex) (ev_var rfl)) fun H1 e1 => ?_
    have hR1 := hR.mono (ex_del (d := b) e1)
    have E1 : Ex (del H b) H1 := del_ex.trans e1
    refine q_asgD (evd_draw (ea_cons (ev_var rfl) (ea_cons (ev_var rfl) ea_nil)) (by omega) (by omega)) (hb.mono e1) fun v H2 e2 hb2 hv => ?_
    obtain ⟨q, hq, rfl⟩ := hv
    have hR2 : RuleAt H2 r p := hR1.mono e2
    have hRB2 : RuleAt (del H2 b) r p := hR1.mono (ex_del2 e2)
    have E2 : Ex (del H b) H2 := (ex_del2 E1).trans e2
    obtain ⟨t, ht⟩ := isD_ex ok hq
    obtain ⟨bb, B⟩ := best_ex ok
    have hbb := B.lt ok
    -- told = way_out(..)
    refine q_asgP (evp_call (ea_cons (ev_var rfl) (ea_cons (ev_var rfl) ea_nil)) (spp_way hR2 ok hq)) fun v H3 e3 hv => ?_
    obtain ⟨a, its, rfl, ha, O⟩ := hv
    obtain ⟨t', ht', hlen⟩ := O.len
    have et : t' = t := ht'.uniq ht
    subst et
    have hok : ∀ i ∈ its, ItOk p i := fun i hi => (O.ok i hi).2
    have htp := layK_le ok hq ht.2
    have hz : its.length ≤ 1000 := by omega
    have hR3 := hR2.mono e3
    refine q_ifno (et_is (et_or (et_test (ev_op (ev_call (ea_cons (ev_var rfl) (ea_cons (ev_var rfl) ea_nil)) (spv_life hR3 ok hq ht)) (ev_call (ea_cons (ev_var rfl) (ea_cons (ev_var rfl) ea_nil)) (spv_law_life hR3 ok hq ht)) (rv_ne rfl)))
      fun _ => et_test (ev_op (ev_is (ev_len (ev_var rfl) (sq_of ha)) (by rw [List.length_map, hlen])) (ev_call (ea_cons (ev_var rfl) (ea_cons (ev_var rfl) ea_nil)) (spv_life hR3 ok hq ht)) (rv_ne rfl))) (by simp)) fun H4 e4 => ?_
    have hR4 := hR3.mono e4
    have ha4 := exu e4 ha
    refine q_ifno (et_is (et_or (et_not (et_test (ev_call (ea_cons (ev_var rfl) (ea_cons (ev_var rfl) (ea_cons (ev_var rfl) (ea_cons ev_c ea_nil)))) (spv_walk (g := none) hR4 ok hq ha4 hz hok)))) fun _ => et_test (ev_op (ev_call (ea_cons (ev_var rfl) (ea_cons (ev_var rfl) (ea_cons (ev_var rfl) ea_nil))) (spv_is_way hR4 ok hq ha4 hz)) ev_c rv_notB)) ?_) fun H5 e5 => ?_
    · rw [O.wk ok hq, O.noOwn, O.out]
      simp
    have hR5 := hR4.mono e5
    refine q_asg (ev_call (ea_cons (ev_var rfl) ea_nil) (spv_keeps hR5 ok B)) fun H6 e6 => ?_
    have hR6 := hR5.mono e6
    have e26 := (e3.trans e4).trans (e5.trans e6)
    have hb6 := hb2.mono e26
    have hf : ∀ g, (@decide (LostG p g) (Classical.propDecidable _)) = true ↔ LostG p g := fun g => @decide_eq_true_iff _ (Classical.propDecidable _)
    refine q_ifno (et_is (et_test (ev_opLL (xs := ((List.range (p.length - bb)).map (fun i => bb + 1 + i)).map nV) (ys := ((List.range (p.length - bb)).map (fun i => bb + 1 + i)).map nV) (el_is (el_lcRg (n := p.length + 1) nV (fun g => @decide (LostG p g) (Classical.propDecidable _)) (ea_cons (ev_is (ev_op (ev_var rfl) ev_c rv_I0) rfl) ea_nil) (by omega) (fun _ => rfl) (fun g hg H7 e7 => et_test (ev_call (ea_cons (ev_var rfl) (ea_cons (ev_var rfl) ea_nil)) (spv_law_lost (hR6.mono e7) ok (by omega) (hf g)))) fun g hg H7 e7 _ => ev_var rfl) ?_)
      (el_is (el_listRg2 (a := bb + 1) (n := p.length - bb) (ev_is (ev_op (ev_var rfl) ev_c rv_I0) rfl) (ev_is (ev_op (ev_var rfl) ev_c rv_I0) ?_) (by omega)) ?_) fun p q H1 h1 h2 _ => rv_neN h1 h2)) (by simp)) fun H7 e7 => ?_
    · rw [best_filter ok B _ hf]
    · show V.int ((p.length : Int) + 1) = V.int ((bb + 1 + (p.length - bb) : Nat) : Int)
      congr 1
      omega
    · rw [List.map_map]
      rfl
    have hb7 := hb6.mono e7
    have hRB7 : RuleAt (del H7 b) r p := hRB2.mono (ex_del (e26.trans e7))
    have E7 : Ex (del H b) H7 := E2.trans (e26.trans e7)
    -- gap
    refine q_asgD (evd_draw (n := p.length + 1) (ea_cons (ev_var rfl) (ea_cons (ev_is (ev_op (ev_var rfl) ev_c rv_I0) rfl) ea_nil)) (by omega) (by omega)) hb7 fun v H8 e8 hb8 hv => ?_
    obtain ⟨g, hg, rfl⟩ := hv
    have hR8 : RuleAt H8 r p := hRB7.mono e8
    have hRB8 : RuleAt (del H8 b) r p := hRB7.mono (ex_del2 e8)
    have E8 : Ex (del H b) H8 := (ex_del2 E7).trans e8
    have hg100 : g ≤ 100 := by omega
    refine q_asgP (evp_call (ea_cons (ev_var rfl) (ea_cons (ev_var rfl) ea_nil)) (spp_lostW hR8 ok hg100)) fun v H9 e9 hv => ?_
    have hR9 := hR8.mono e9
    have hcmp : EvT (tTest (tOp rNe (tIsN (tVar 4)) (tOp (rI0 fun i j => .bl (decide (i ≤ j))) (tVar 6) (tVar 5)))) [some (.ref b), some (.ref r), some (nV p.length), some (nV q), some v, some (nV bb), some (nV g), none, none] H9 false := by
      refine et_is (et_test (ev_op (ev_isN (ev_var rfl)) (ev_op (ev_var rfl) (ev_var rfl) rv_I0) (rv_ne rfl))) ?_
      rcases hv with ⟨n, rfl⟩ | ⟨n, a', its', rfl, _⟩
      · have c : (g : Int) ≤ (bb : Int) := by
          have := mt B.iff.mpr n
          omega
        rw [decide_eq_true c]
        rfl
      · have c : ¬ (g : Int) ≤ (bb : Int) := by
          have := B.iff.mp n
          omega
        rw [decide_eq_false c]
        rfl
    refine q_ifno hcmp fun H10 e10 => ?_
    have hR10 := hR9.mono e10
    have hkV : ∀ H', RuleAt H' r p → ∀ σ : L2.St, σ[2]? = some (some (nV p.length)) → Ev (tOp (rI0 fun i j => .int (i - j)) (tVar 2) (tC (.int 1))) σ H' (nV (p.length - 1)) := fun H' _ σ hs => ev_is (ev_op (ev_var hs) ev_c rv_I0) (pred_V (by omega))
    refine q_whenM (b := !decide (v = .non)) (fun σ' H' => σ' = [some (.ref b), some (.ref r), some (nV p.length), some (nV q), some v, some (nV bb), some (nV g), none, none] ∧ Ex H9 H') (et_B (ev_notN (ev_var rfl))) (fun hb' H11 e11 N hN => ?_) (fun _ H11 e11 => ⟨rfl, e10.trans e11⟩) ?_
    · rcases hv with ⟨n, rfl⟩ | ⟨n, a', its', rfl, ha', vl, hz'⟩
      · exact Bool.noConfusion hb'
      · have hR11 := hR10.mono e11
        have ha11 := exu (e10.trans e11) ha'
        refine s_ifno (et_is (et_or (et_not (et_test (ev_call (ea_cons (ev_var rfl) (ea_cons (hkV H11 hR11 _ rfl) (ea_cons (ev_var rfl) (ea_cons (ev_var rfl) ea_nil)))) (spv_walk (g := some g) hR11 ok (by omega) ha11 hz' vl.1)))) fun _ => et_test (ev_op (ev_call (ea_cons (ev_var rfl) (ea_cons (ev_var rfl) (ea_cons (ev_var rfl) ea_nil))) (spv_is_lost hR11 ok hg100 ha11 hz')) ev_c rv_notB)) ?_) fun H12 e12 => hN _ _ ⟨rfl, (e10.trans e11).trans e12⟩
        rw [vl.wk ok, decide_eq_true vl.2.1, decide_eq_true vl.2.2]
        rfl
    rintro σ' H12 ⟨rfl, e12⟩
    have e8_12 := e9.trans e12
    have hb12 := hb8.mono e8_12
    have hRB12 : RuleAt (del H12 b) r p := hRB8.mono (ex_del e8_12)
    have E12 : Ex (del H b) H12 := E8.trans e8_12
    -- calls
    refine q_asgD (evd_lcRD (R := ItmP p) (n := 6) (fun _ _ _ _ _ h => h) (evd_draw (ea_cons (ev_var rfl) (ea_cons ev_c ea_nil)) (by decide) (by decide)) (by decide) (fun _ => rfl) fun i hi H13 e13 hb13 => evd_imp (evd_ixD (n := 3) (Pl := fun xs => ∃ d : Nat, d < p.length ∧ xs = [.non, .str "own", nV d]) (evd_lst3 (evd_draw (ea_cons (ev_var rfl) (ea_cons (ev_var rfl) ea_nil)) (by omega) (by omega)))
      (evd_draw (n := 3) (ea_cons (ev_var rfl) (ea_cons ev_c ea_nil)) (by decide) (by decide)) fun xs ⟨d, _, e⟩ => by rw [e]; exact Nat.le_refl 3) fun v H' hv => ?_) hb12 fun v H13 e13 hb13 hv => ?_
    · obtain ⟨xs, ⟨d, hd, rfl⟩, hv⟩ := hv
      rcases List.mem_cons.mp hv with z | hv
      · rw [z]
        exact ⟨⟨.miss, rfl, fun _ z => nomatch z⟩, fun a z => nomatch z⟩
      · rcases List.mem_cons.mp hv with z | hv
        · rw [z]
          exact ⟨⟨.own, rfl, fun _ z => nomatch z⟩, fun a z => nomatch z⟩
        · rw [List.mem_singleton.mp hv]
          exact ⟨⟨.hit d, rfl, fun _ z => by cases z; exact hd⟩, fun a z => nomatch z⟩
    obtain ⟨l, ws, rfl, lb, hl, hwl, hws⟩ := hv
    obtain ⟨cs, rfl, hcs⟩ := of_items fun i v hv => (hws i v hv).1
    rw [List.length_map] at hwl
    have hcz : cs.length ≤ 1000 := by omega
    have hR13 : RuleAt H13 r p := hRB12.mono e13
    have E13 : Ex (del H b) H13 := (ex_del2 E12).trans e13
    have hwk := wk_some ok (g := g) cs (p.length - 1) 0 0 (by omega) hcs (Nat.zero_le _)
    refine q_ifno (et_is (et_test (ev_op (ev_call (ea_cons (ev_var rfl) (ea_cons (ev_var rfl) (ea_cons (ev_var rfl) ea_nil))) (spv_is_lost hR13 ok hg100 hl hcz)) (ev_call (ea_cons (ev_var rfl) (ea_cons (hkV H13 hR13 _ rfl) (ea_cons (ev_var rfl) (ea_cons (ev_var rfl) ea_nil)))) (spv_walk (g := some g) hR13 ok (by omega) hl hcz hcs)) (rv_ne rfl))) ?_) fun H14 e14 => ?_
    · rw [hwk, show cs.foldl cnt (0, 0) = mo cs from rfl]
      exact congrArg not (decide_eq_true rfl)
    have hR14 := hR13.mono e14
    have hl14 := exu e14 hl
    refine s_ret (ev_is (ev_op (ev_call (ea_cons (ev_var rfl) (ea_cons (ev_var rfl) (ea_cons (ev_var rfl) ea_nil))) (spv_is_way hR14 ok hq hl14 hcz)) (ev_call (ea_cons (ev_var rfl) (ea_cons (ev_var rfl) (ea_cons (ev_var rfl) (ea_cons ev_c ea_nil)))) (spv_walk (g := none) hR14 ok hq hl14 hcz hcs)) (rv_eq rfl)) ?_) fun H15 e15 => k H15 (E13.trans (e14.trans e15))
    rw [wk_none ok cs q 0 hq hcs, decide_eq_true rfl]
end
end K78

/-! K78x8: _law_right, law. -/
namespace K78
open PySem PySem.Spec PyProof.Rows L2 Evl
local macro_rules | `(tactic| walk_at "sq") => `(tactic| first | exact sq_of (by assumption) | assumption)
local macro_rules | `(tactic| walk_at "at") => `(tactic| first | exact atI_nat (by assumption) | assumption)
local macro_rules | `(tactic| walk_at "side") => `(tactic| first | assumption | exact ⟨by decide, by decide⟩ | decide | omega)
local macro_rules | `(tactic| walk_at "rv") => `(tactic| first
  | exact rv_I0
  | exact rv_eq rfl
  | exact rv_ne rfl
  | (refine' rv_ixL ?h ?a; (case h => walk_at "sq"); (case a => walk_at "at"))
  | (refine' rv_I ?c; (case c => walk_at "side")))
local macro_rules | `(tactic| walk_at "ev") => `(tactic| first
  | exact ev_var rfl
  | exact ev_c
  | (refine' ev_isi ?a ?b (.ty _) ?c ?d; (case a => walk_at "ev"); (case b => walk_at "ev"); (case c => first | exact ty_int | exact ty_str | exact ty_lst (by assumption)); (case d => first | exact kit_ty k_ii | exact kit_ty k_ib | exact kit_ty k_si | exact kit_ty k_ll | exact kit_ty k_ss))
  | (refine' ev_op ?a ?b ?c; (case a => walk_at "ev"); (case b => walk_at "ev"); (case c => walk_at "rv"))
  | (refine' ev_un ?a ?b; (case a => walk_at "ev"); (case b => exact ru_neg))
  | (refine' ev_isN ?a; (case a => walk_at "ev"))
  | (refine' ev_notN ?a; (case a => walk_at "ev"))
  | (refine' ev_orV1 (ev_is ?a ?b); (case a => walk_at "ev"); (case b => decide))
  | (refine' ev_andV0 (ev_is ?a ?b); (case a => walk_at "ev"); (case b => decide))
  | (refine' ev_andV ?a ?b; (case a => walk_at "ev"); (case b => intro _; walk_at "ev"))
  | (refine' ev_orV ?a ?b; (case a => walk_at "ev"); (case b => intro _; walk_at "ev"))
  | (refine' ev_notV ?a; (case a => walk_at "ev"))
  | (refine' ev_len ?a ?b; (case a => walk_at "ev"); (case b => walk_at "sq"))
  | (refine' ev_chain ?a ?b ?c ?d ?e; (case a => walk_at "ev"); (case b => walk_at "ev"); (case c => walk_at "rv"); (case d => intro _; walk_at "ev"); (case e => intro _; walk_at "rv")))
local macro_rules | `(tactic| walk_at "et") => `(tactic| first
  | (refine' et_test ?a; (case a => walk_at "ev"))
  | (refine' et_B ?a; (case a => walk_at "ev"))
  | (refine' et_not ?a; (case a => walk_at "et"))
  | (refine' et_or1 (et_is ?a ?b); (case a => walk_at "et"); (case b => decide))
  | (refine' et_and0 (et_is ?a ?b); (case a => walk_at "et"); (case b => decide))
  | (refine' et_and ?a ?b; (case a => walk_at "et"); (case b => intro _; walk_at "et"))
  | (refine' et_or ?a ?b; (case a => walk_at "et"); (case b => intro _; walk_at "et")))
section
variable {P : Program} {w : World} {K : PySem.W.Frag} {mg : Str → Option Value} {base : Heap}
theorem path_lt {p : Plan} (h : RuleOk p) : ∀ n m, Msk p m → m ≠ 0 → n ≤ L p m → ∀ c ∈ path p n m, ∀ x, c = some x → x < p.length
  | 0, m, _, _, _, c, hc, _, _ => nomatch hc
  | n + 1, m, hm, h0, hn, c, hc, x, e => by
    obtain ⟨q1, q2, q3⟩ := L_pos h hm (by omega)
    have hc' : c ∈ C p m :: path p n (mb p m (C p m)) := hc
    rcases List.mem_cons.mp hc' with z | z
    · rw [z] at e
      exact moves_lt h hm q1 x e
    · exact path_lt h n _ (mb_msk h hm _ (moves_lt h hm q1)) q2 (by omega) c z x e
theorem spl_forgetting {H : Hp} {r : Addr} {p : Plan} (hR : RuleAt H r p) (ok : RuleOk p) : SpL sp_forgetting [.ref r] H ((path p (L p (full p)) (full p)).map oV) := fun H1 e Q k _ => ⟨r, p, rfl, hR.mono e, ok, k⟩
theorem spv_forgets {H : Hp} {r : Addr} {p : Plan} (hR : RuleAt H r p) (ok : RuleOk p) : SpV sp_forgets [.ref r] H (nV (L p (full p) + 1)) := fun H1 e Q k _ => ⟨r, p, rfl, hR.mono e, ok, k⟩
theorem spv_shows {H : Hp} {r a : Addr} {p : Plan} {cs : List (Option Nat)} (hR : RuleAt H r p) (ok : RuleOk p) (ha : H a = some (.lst (cs.map oV))) (hcs : ∀ c ∈ cs, ∀ x, c = some x → x < p.length) : SpV sp_shows_forgetting [.ref r, .ref a] H (.bl (histR p (full p) cs)) := fun H1 e Q k _ => ⟨r, p, a, cs, rfl, hR.mono e, ok, exu e ha, hcs, k⟩
theorem spv_hist {H : Hp} {r a : Addr} {p : Plan} {cs : List (Option Nat)} (hR : RuleAt H r p) (ok : RuleOk p) (ha : H a = some (.lst (cs.map oV))) (hcs : ∀ c ∈ cs, ∀ x, c = some x → x < p.length) : SpV sp_law_history_right [.ref r, .ref a] H (.bl (histR p (full p) cs)) := fun H1 e Q k _ => ⟨r, p, a, cs, rfl, hR.mono e, ok, exu e ha, hcs, k⟩
theorem evd_rule {σ : L2.St} {H : Hp} {tr : TA} {b : Addr} {n : Nat} {E : XK} (h : EvA tr σ (del H b) [.ref b, nV n]) (h2 : 2 ≤ n) (h5 : n ≤ 5) : EvD b (tCall sp_law_some_rule [] E tr) σ H (fun v H' => ∃ r p, v = .ref r ∧ RuleAt (del H' b) r p ∧ RuleOk p ∧ p.length = n) := fun H1 e hb Q q =>
  h H1 e _ fun H2 e2 => ⟨b, n, rfl, h2, h5, hb.mono e2, fun r p H3 e3 hb3 q1 q2 q3 => q _ H3 ((ex_del2 (del_ex.trans e2)).trans e3) hb3 ⟨r, p, rfl, q1, q2, q3⟩⟩
def CallP (p : Plan) (H : Hp) (v : V) (i : Nat) : Prop := ∃ c : Option Nat, v = oV c ∧ ∀ x, c = some x → x < p.length
theorem of_calls {p : Plan} : ∀ {ws : List V}, (∀ (i : Nat) v, ws[i]? = some v → ∃ c : Option Nat, v = oV c ∧ ∀ x, c = some x → x < p.length) → ∃ cs : List (Option Nat), ws = cs.map oV ∧ ∀ c ∈ cs, ∀ x, c = some x → x < p.length
  | [], _ => ⟨[], rfl, fun _ z => nomatch z⟩
  | v :: ws, h => by
    obtain ⟨c, rfl, hi⟩ := h 0 v rfl
    obtain ⟨cs, rfl, hs⟩ := of_calls (ws := ws) fun i v hv => h (i + 1) v (by simpa using hv)
    refine ⟨c :: cs, rfl, fun x hx => ?_⟩
    rcases List.mem_cons.mp hx with z | z
    · rw [z]
      exact hi
    · exact hs x z
theorem top_V : ∀ k : Fin 6, 2 ≤ k.1 → (1 : Int) + (((k.1 : Int) - 1) * ((k.1 : Int) + 2)).fdiv 2 = ((1 + (k.1 - 1) * (k.1 + 2) / 2 : Nat) : Int) := by decide +kernel
def sp_law_right : Sp := fun vs H Q _ => ∃ b : Addr, vs = [.ref b] ∧ BagAt H b ∧ ∀ H', Ex (del H b) H' → Q (.bl true) H'
theorem ok_law_right (T : Tx K mg) : FnOk P w K mg base CX0 22 T.a_law_right T.d_law_right ["_law_bag_here"] sp_law_right := by
  refine T.h_law_right.F.ok sc_law_right (fun vs H Q E h => ?_) (fun cdv A outer s H vs Q E hr h => ?_)
  · obtain ⟨b, rfl, _⟩ := h
    rfl
  · obtain ⟨b, rfl, hb, k⟩ := h
    refine ⟨_, (pss_cons (ps_set (i := 1) sc_law_right.nd rfl (.inr rfl) (pe_op op_add pe_int (pe_call (ok_law_draw T) (hr.mono (by decide)) (by rfl) T.h_law_draw.g T.h_law_draw.kp T.h_law_draw.b .nil pass0 (pa_cons (pv 0) (pa_cons pe_int pa_nil)))))
      (pss_cons (ps_set (i := 2) sc_law_right.nd rfl (.inl rfl) (pe_call (ok_law_some_rule T) (hr.mono (by decide)) (by rfl) T.h_law_some_rule.g T.h_law_some_rule.kp T.h_law_some_rule.b .nil pass0 (pa_cons (pv 0) (pa_cons (pv 1) pa_nil))))
      (pss_cons (ps_set (i := 3) sc_law_right.nd rfl (.inl rfl) (pe_call (ok_law_forgets T) (hr.mono (by decide)) (by rfl) T.h_law_forgets.g T.h_law_forgets.kp T.h_law_forgets.b .nil pass0 (pa_cons (pv 2) pa_nil)))
      (pss_cons (ps_set (i := 4) sc_law_right.nd rfl (.inl rfl) (pe_call (ok_forgetting T) (hr.mono (by decide)) (by rfl) T.h_forgetting.g T.h_forgetting.kp T.h_forgetting.b .nil pass0 (pa_cons (pv 2) pa_nil)))
      (pss_cons (ps_if (PW.pt (pw_or (pt_cmpR op_ne (pe_call (ok_forgets T) (hr.mono (by decide)) (by rfl) T.h_forgets.g T.h_forgets.kp T.h_forgets.b .nil pass0 (pa_cons (pv 2) pa_nil)) (pv 3) (nomark _)) (pw_or1 (pt_not (pt_chain op_le op_le (pv 1) (pv 3) (pe_op op_add pe_int (pe_op op_fdivN (pe_op op_mul (pe_op op_sub (pv 1) pe_int) (pe_op op_add (pv 1) pe_int)) pe_int)))))))
      (pss_one (ps_ret pe_bl))
      pss_nil)
      (pss_cons (ps_if (PW.pt (pw_or (pt_cmpR op_ne (pe_callB (call_len_seqK (K := K) rfl) (by rfl) T.z_len PySem.boot_len (pa_cons (pv 4) pa_nil)) (pe_op op_sub (pv 3) pe_int) (nomark _)) (pw_or (pt_not (pt_val (pe_call (ok_law_history_right T) (hr.mono (by decide)) (by rfl) T.h_law_history_right.g T.h_law_history_right.kp T.h_law_history_right.b .nil pass0 (pa_cons (pv 2) (pa_cons (pv 4) pa_nil))))) (pw_or1 (pt_cmpR op_notBl (pe_call (ok_shows_forgetting T) (hr.mono (by decide)) (by rfl) T.h_shows_forgetting.g T.h_shows_forgetting.kp T.h_shows_forgetting.b .nil pass0 (pa_cons (pv 2) (pa_cons (pv 4) pa_nil))) pe_bl (nomark _))))))
      (pss_one (ps_ret pe_bl))
      pss_nil)
      (pss_cons (ps_setLc (i := 5) (own := [("_law_k", 6)]) (g := gName 6) (tt := tYes) rfl sc_law_right.nd rfl rfl (sw_true rfl rfl rfl (by decide +kernel)) (pi_range1 rfl T.z_range (pa_cons (pe_call (ok_law_draw T) (hr.mono (by decide)) (by rfl) T.h_law_draw.g T.h_law_draw.kp T.h_law_draw.b .nil pass0 (pa_cons (pv 0) (pa_cons pe_int pa_nil))) pa_nil)) (blkOk_by (own := [("_law_k", 6)]) (N := ["_law_bag_here", "_law_many", "_law_plan", "_law_due", "_law_told", "_law_calls", "_law_k"]) (sc := defScope s_law_right) (by decide +kernel)) (fun _ _ _ _ _ => pg_name (i := 6) sc_law_right.nd rfl (.inl rfl)) (fun _ _ _ _ _ => pts_nil) (fun _ _ _ _ _ => (pe_ix (ix_listK (K := K) rfl) (pe_lst (pa_cons pe_non (pa_cons (pe_call (ok_law_draw T) (hr.mono (by decide)) (by rfl) T.h_law_draw.g T.h_law_draw.kp T.h_law_draw.b .nil pass0 (pa_cons (pv 0) (pa_cons (pv 1) pa_nil))) pa_nil))) (pe_call (ok_law_draw T) (hr.mono (by decide)) (by rfl) T.h_law_draw.g T.h_law_draw.kp T.h_law_draw.b .nil pass0 (pa_cons (pv 0) (pa_cons pe_int pa_nil))) (fun _ _ => rfl))))
      (pss_cons (ps_if (pt_cmpR op_ne (pe_call (ok_shows_forgetting T) (hr.mono (by decide)) (by rfl) T.h_shows_forgetting.g T.h_shows_forgetting.kp T.h_shows_forgetting.b .nil pass0 (pa_cons (pv 2) (pa_cons (pv 5) pa_nil))) (pe_call (ok_law_history_right T) (hr.mono (by decide)) (by rfl) T.h_law_history_right.g T.h_law_history_right.kp T.h_law_history_right.b .nil pass0 (pa_cons (pv 2) (pa_cons (pv 5) pa_nil))) (nomark _))
      (pss_one (ps_ret pe_bl))
      pss_nil)
      (pss_one (ps_ret (pe_call (ok_law_keeping_right T) (hr.mono (by decide)) (by rfl) T.h_law_keeping_right.g T.h_law_keeping_right.kp T.h_law_keeping_right.b .nil pass0 (pa_cons (pv 0) (pa_cons (pv 2) pa_nil))))))))))))), ?_⟩
    refine q_asgD (evd_opI (x := 2) (n := 4) ev_c (evd_draw (ea_cons (ev_var rfl) (ea_cons ev_c ea_nil)) (by decide) (by decide))) hb fun v H1 e1 hb1 hv => ?_
    obtain ⟨d, hd, rfl⟩ := hv
    rw [show V.int ((2 : Int) + (d : Int)) = nV (2 + d) from congrArg V.int (by omega)]
    refine q_asgD (evd_rule (n := 2 + d) (ea_cons (ev_var rfl) (ea_cons (ev_var rfl) ea_nil)) (by omega) (by omega)) hb1 fun v H2 e2 hb2 hv => ?_
    obtain ⟨r, p, rfl, hRB2, ok, hlen⟩ := hv
    rw [← hlen]
    have h2 := ok.lo
    have h5 := ok.hi
    have hR2 := hRB2.mono del_ex
    have E2 : Ex (del H b) H2 := (ex_del2 e1).trans e2
    refine q_asg (ev_call (ea_cons (ev_var rfl) ea_nil) (spv_law_forgets hR2 ok)) fun H3 e3 => ?_
    have hR3 := hR2.mono e3
    refine q_asgL (evl_call (ea_cons (ev_var rfl) ea_nil) (spl_forgetting hR3 ok)) fun a H4 na e4 ha => ?_
    have hR4 := hR3.mono e4
    have hbot := L_bot ok
    have htop := L_top ok
    have htV := top_V ⟨p.length, by omega⟩ h2
    refine q_ifno (et_is (et_or (et_test (ev_op (ev_call (ea_cons (ev_var rfl) ea_nil) (spv_forgets hR4 ok)) (ev_var rfl) (rv_ne rfl))) fun _ => et_not (et_test (ev_chain (ev_var rfl) (ev_var rfl) rv_I0 (fun _ => ev_op ev_c (ev_op (ev_op (ev_op (ev_var rfl) ev_c rv_I0) (ev_op (ev_var rfl) ev_c rv_I0) (rv_I (.inl ⟨by omega, by omega⟩))) ev_c (rv_I ⟨by decide, by decide⟩)) rv_I0) fun _ => rv_I0))) ?_) fun H5 e5 => ?_
    · have c1 : decide ((p.length : Int) ≤ ((L p (full p) + 1 : Nat) : Int)) = true := decide_eq_true (by omega)
      have c2 : decide (((L p (full p) + 1 : Nat) : Int) ≤ 1 + (((p.length : Int) - 1) * ((p.length : Int) + 2)).fdiv 2) = true := decide_eq_true (by
        rw [htV]
        exact Int.ofNat_le.mpr htop)
      rw [c1, c2, decide_eq_true rfl]
      rfl
    have hR5 := hR4.mono e5
    have ha5 := exu e5 ha
    have hpl := path_lt ok (L p (full p)) (full p) (full_msk p) (full_pos ok) (Nat.le_refl _)
    have hpr := path_right ok (L p (full p)) (full p) (full_msk p) (full_pos ok) rfl
    refine q_ifno (et_is (et_or (et_test (ev_op (ev_len (ev_var rfl) (sq_of ha5)) (ev_op (ev_var rfl) ev_c rv_I0) (rv_ne rfl))) fun _ => et_or (et_not (et_test (ev_call (ea_cons (ev_var rfl) (ea_cons (ev_var rfl) ea_nil)) (spv_hist hR5 ok ha5 hpl)))) fun _ => et_test (ev_op (ev_call (ea_cons (ev_var rfl) (ea_cons (ev_var rfl) ea_nil)) (spv_shows hR5 ok ha5 hpl)) ev_c rv_notB)) ?_) fun H6 e6 => ?_
    · rw [hpr, List.length_map, path_len, decide_eq_true (show V.int ((L p (full p) : Nat) : Int) = V.int (((L p (full p) + 1 : Nat) : Int) - 1) from congrArg V.int (by omega))]
      rfl
    have e26 := (e3.trans e4).trans (e5.trans e6)
    have hb6 := hb2.mono e26
    have hRB6 : RuleAt (del H6 b) r p := hRB2.mono (ex_del e26)
    have E6 : Ex (del H b) H6 := E2.trans e26
    refine q_asgD (evd_lcRD (R := CallP p) (n := 6) (fun _ _ _ _ _ h => h) (evd_draw (ea_cons (ev_var rfl) (ea_cons ev_c ea_nil)) (by decide) (by decide)) (by decide) (fun _ => rfl) fun i hi H13 e13 hb13 => evd_imp (evd_ixD (n := 2) (Pl := fun xs => ∃ d : Nat, d < p.length ∧ xs = [.non, nV d]) (evd_lst2 (evd_draw (ea_cons (ev_var rfl) (ea_cons (ev_var rfl) ea_nil)) (by omega) (by omega)))
      (evd_draw (n := 2) (ea_cons (ev_var rfl) (ea_cons ev_c ea_nil)) (by decide) (by decide)) fun xs ⟨d, _, e⟩ => by rw [e]; exact Nat.le_refl 2) fun v H' hv => ?_) hb6 fun v H7 e7 hb7 hv => ?_
    · obtain ⟨xs, ⟨d, hd, rfl⟩, hv⟩ := hv
      rcases List.mem_cons.mp hv with z | hv
      · rw [z]
        exact ⟨⟨none, rfl, fun _ z => nomatch z⟩, fun a z => nomatch z⟩
      · rw [List.mem_singleton.mp hv]
        exact ⟨⟨some d, rfl, fun _ z => by cases z; exact hd⟩, fun a z => nomatch z⟩
    obtain ⟨l, ws, rfl, lb, hl, hwl, hws⟩ := hv
    obtain ⟨cs, rfl, hcs⟩ := of_calls fun i v hv => (hws i v hv).1
    have hR7 : RuleAt H7 r p := hRB6.mono e7
    have hRB7 : RuleAt (del H7 b) r p := hRB6.mono (ex_del2 e7)
    have E7 : Ex (del H b) H7 := (ex_del2 E6).trans e7
    refine q_ifno (et_is (et_test (ev_op (ev_call (ea_cons (ev_var rfl) (ea_cons (ev_var rfl) ea_nil)) (spv_shows hR7 ok hl hcs)) (ev_call (ea_cons (ev_var rfl) (ea_cons (ev_var rfl) ea_nil)) (spv_hist hR7 ok hl hcs)) (rv_ne rfl))) (congrArg not (decide_eq_true rfl))) fun H8 e8 => ?_
    have E8 : Ex (del H b) H8 := E7.trans e8
    refine ⟨_, rfl, _, rfl, ?_⟩
    exact ⟨b, r, p, rfl, hb7.mono e8, hRB7.mono (ex_del e8), ok, fun H9 e9 => k H9 ((ex_del2 E8).trans e9)⟩
/-! ### the law -/
theorem cut3 (xs : List V) : cutV xs none (some 3) = xs.take 3 := by
  unfold cutV
  rw [show HT.sIx xs.length xs.length (some 3) = min 3 xs.length from HT.sIx_nat xs.length _ 3, HT.sIx_none, List.drop_zero, Nat.sub_zero]
  by_cases h : 3 ≤ xs.length
  · rw [Nat.min_eq_left h]
  · rw [Nat.min_eq_right (by omega), List.take_length, List.take_of_length_le (by omega)]
def spLaw (K : PySem.W.Frag) : Sp := fun vs H Q _ => ∃ (a : Addr) (ns : List Int), vs = [.ref a] ∧ SqL K H a (ns.map V.int) ∧ ns.length ≤ 63 ∧ ∀ H', Q (.bl true) H'
section
variable {σ : L2.St} {H : Hp} {ta tb : TE}
theorem el_rep {xs : List V} {k : Nat} (ha : EvL ta σ H xs) (hb : Ev tb σ H (nV k)) (hk : k ≤ 1) (hz : xs.length ≤ 1000) : EvL (tOp rRep ta tb) σ H (List.replicate k xs).flatten := fun H1 e Q q =>
  ha H1 e _ fun l H2 nl e2 hl => hb H2 (e.trans e2) _ fun H3 e3 => ⟨l, (k : Int), xs, rfl, rfl, exu e3 hl, by omega, by omega, by
    rw [Int.toNat_natCast]
    refine sz_of ?_
    have : xs.length * k ≤ xs.length * 1 := Nat.mul_le_mul_left _ hk
    omega, fun p np => q p _ (fresh_back (e2.trans e3) np) ((e2.trans e3).trans (Ex.new np)) (by rw [upd_same, Int.toNat_natCast])⟩
theorem el_catLL {xs ys : List V} (ha : EvL ta σ H xs) (hb : EvL tb σ H ys) (hz : xs.length + ys.length ≤ 100000) : EvL (tOp rCat ta tb) σ H (xs ++ ys) := fun H1 e Q q =>
  ha H1 e _ fun l H2 nl e2 hl => hb H2 (e.trans e2) _ fun b H3 nb e3 hb3 => ⟨l, b, xs, ys, rfl, rfl, exu e3 hl, hb3, sz_of hz, fun p np => q p _ (fresh_back (e2.trans e3) np) ((e2.trans e3).trans (Ex.new np)) upd_same⟩
end
section
variable {σ : L2.St} {H : Hp} {te : TE} {tr : TA}
theorem evp_bag {c : Int} {k : Nat} {E : XK} (h : EvA tr σ H [.int c, nV k]) : EvP (tCall sp_law_bag [] E tr) σ H (BagP H) := fun H1 e Q q => h H1 e _ fun H2 e2 => ⟨c, k, rfl, fun v H3 e3 hv => by
  obtain ⟨b, rfl, nb, hb⟩ := hv
  exact q _ H3 (e2.trans e3) ⟨b, rfl, fresh_back (e.trans e2) nb, hb⟩⟩
theorem et_right {E : XK} (h : ∀ H1, Ex H H1 → EvP te σ H1 (BagP H1)) : EvT (tTest (tCall sp_law_right [] E (tCons te tNil))) σ H true := fun H1 e1 Q q => h H1 e1 H1 (Ex.refl _) _ fun v H2 e2 hv => by
  obtain ⟨b, rfl, nb, hb⟩ := hv
  exact ⟨b, rfl, hb, fun H3 e3 => ⟨true, rfl, q H3 fun x o ho => e3 x o (del_put (e2 x o ho) (ne_of_none ho nb))⟩⟩
end
theorem ok_law (T : Tx K mg) : FnOk P w K mg base CX0 23 T.a_law T.d_law ["_law_script"] (spLaw K) := by
  refine T.h_law.F.ok sc_law (fun vs H Q E h => ?_) (fun cdv A outer s H vs Q E hr h => ?_)
  · obtain ⟨a, ns, rfl, _⟩ := h
    rfl
  · obtain ⟨a, ns, rfl, hS, hlen, k⟩ := h
    refine ⟨_, (pss_cons (ps_set (i := 1) sc_law.nd rfl (.inl rfl) (pe_op op_cat (pe_slice sl_list (pv 0) po_none (po_some pe_int)) (pe_op op_rep (pe_lst (pa_cons pe_int pa_nil)) (pe_callTy call_int1 (by rfl) T.z_int (by decide +kernel) (pa_cons (pe_cmpR (op_eqD hr.units) (pv 0) (pe_lst pa_nil) (nomark _)) pa_nil)))))
      (pss_cons (ps_for PassesOwn.never rfl (pi_range1 rfl T.z_range (pa_cons (pe_callB (call_len_seqK (K := K) rfl) (by rfl) T.z_len PySem.boot_len (pa_cons (pv 1) pa_nil)) pa_nil)) (pg_name (i := 2) sc_law.nd rfl (.inl rfl))
      (pss_one (ps_if (pt_not (pt_val (pe_call (ok_law_right T) (hr.mono (by decide)) (by rfl) T.h_law_right.g T.h_law_right.kp T.h_law_right.b .nil pass0 (pa_cons (pe_call (ok_law_bag T) (hr.mono (by decide)) (by rfl) T.h_law_bag.g T.h_law_bag.kp T.h_law_bag.b .nil pass0 (pa_cons (pe_ix (ix_listK (K := K) rfl) (pv 1) (pv 2) (fun _ _ => rfl)) (pa_cons (pv 2) pa_nil))) pa_nil))))
      (pss_one (ps_ret pe_bl))
      pss_nil)))
      (pss_one (ps_ret pe_bl)))), ?_⟩
    have heq : Ev (tOp (rEqD K) (tVar 0) (tLst tNil)) [some (.ref a), none, none] H (.bl (decide (ns = []))) := ev_opL (ev_var rfl) (el_lst ea_nil (Nat.zero_le _)) fun q H1 hq e1 => fun H2 e2 Q2 q2 => ⟨_, _, .lst (ex_l (e1.trans e2) hS) (dp_ints ns), .lst (sq_of (exu e2 hq)) (dp_ints []), shaped_ints ns, shaped_ints [], by rw [eqv_ints]; exact q2 H2 (Ex.refl H2)⟩
    obtain ⟨cs, hcs, hcz⟩ : ∃ cs : List Int, cutV (ns.map V.int) none (some 3) ++ (List.replicate (if decide (ns = []) = true then 1 else 0) [V.int 0]).flatten = cs.map V.int ∧ cs.length ≤ 4 := by
      rw [cut3]
      by_cases c : ns = []
      · subst c
        exact ⟨[0], rfl, by decide⟩
      · rw [decide_eq_false c]
        refine ⟨ns.take 3, ?_, by rw [List.length_take]; omega⟩
        show (ns.map V.int).take 3 ++ [] = _
        rw [List.append_nil, List.map_take]
    refine q_asgL (el_is (el_catLL (el_sl (ev_var rfl) eo_none (eo_some ev_c) hS) (el_rep (k := if decide (ns = []) = true then 1 else 0) (el_lst (ea_cons ev_c ea_nil) (by show 1 ≤ _; decide)) (ev_is (ev_intB heq) ?_) (by split <;> decide) (by show 1 ≤ _; decide)) (by
      have h1 := congrArg List.length hcs
      rw [List.length_append, List.length_map] at h1
      omega)) hcs) fun l H1 nl e1 hl => ?_
    · by_cases c : ns = []
      · rw [decide_eq_true c]
        rfl
      · rw [decide_eq_false c]
        rfl
    refine q_forR (n := cs.length) (ea_cons (ev_is (ev_len (ev_var rfl) (sq_of hl)) (by rw [List.length_map])) ea_nil) (by omega) (fun i σ => ∃ y, σ = [some (.ref a), some (.ref l), y]) ⟨none, rfl⟩ ?_ ?_
    · rintro N i σ' H2 hi ⟨y, rfl⟩ e2 hN
      have gx : Ev (tOp (rIxL K) (tVar 1) (tVar 2)) [some (.ref a), some (.ref l), some (nV i)] H2 (.int cs[i]) := ev_op (ev_var rfl) (ev_var rfl) (rv_ixL (sq_of (exu e2 hl)) (atI_nat (by rw [List.getElem?_map, List.getElem?_eq_getElem hi]; rfl)))
      exact s_ifno (et_is (et_not (et_right fun H3 e3 => evp_bag (EvA.mono e3 (ea_cons gx (ea_cons (ev_var rfl) ea_nil))))) (by rfl)) fun H3 e3 => hN _ _ ⟨_, rfl⟩ e3
    · rintro σ' H2 ⟨y, rfl⟩ e2
      exact s_ret ev_c fun H3 _ => k H3
end
end K78

/-! K78e: what the top has written; the row. -/
namespace K78
open PySem PySem.Spec PyProof.Rows L2
theorem fund_mk {K : PySem.W.Frag} {x qual : Str} {params : Arguments} {body : List Stmt} {scope : Scope} {dV kV doc pm cdv ct oc : Value} {an od : Option Addr} {osl : Array (Option Value)} {dvs : List V} {f : Addr} (lk : K.lookup f = some ⟨oc, od, .func (PySem.W.fnOf x qual params body scope dV kV doc pm an cdv ct), osl⟩)
    (hc : PySem.W.codeIn K cdv qual = true) (hk : PySem.W.keepIn K (.ref f) = true) (hd : DflV K dV dvs) : FunD K x qual params body scope dvs [] f (PySem.W.fnOf x qual params body scope dV kV doc pm an cdv ct) := ⟨⟨oc, od, dV, kV, doc, pm, an, cdv, ct, osl, rfl, lk, hc, hd, .inl rfl⟩, hk⟩
theorem dfl2 {K : PySem.W.Frag} {T : Addr} {oc : Value} {od : Option Addr} {n : Nat} {sl : Array (Option Value)} (h : K.lookup T = some ⟨oc, od, .seq #[.none, .none] n, sl⟩) : DflV K (.ref T) [.non, .non] := .inr ⟨(fun z => nomatch z), T, _, [.none, .none], n, rfl, h, rfl, .cons rfl (.cons rfl .nil)⟩
theorem bind1 {K : PySem.W.Frag} {f : Addr} {fd : FuncData} (F : FunD K "is_integer" "is_integer" (defArgs s_is_integer) (defBody s_is_integer) (defScope s_is_integer) [.non, .non] [] f fd) : ∃ ds, Vals [V.non, V.non] ds ∧ Binds K fd ["value", "least", "most"] ds :=
  F.binds1 (ps := ["value", "least", "most"]) 1 0 (fun z => nomatch z) rfl fun T kV doc pm an cdv ct us its h1 h2 => match us, h1, its, h2 with
    | [_], _, [_, _], _ => ⟨_, rfl, rfl⟩
theorem bind3 {K : PySem.W.Frag} {f : Addr} {fd : FuncData} (F : FunD K "is_integer" "is_integer" (defArgs s_is_integer) (defBody s_is_integer) (defScope s_is_integer) [.non, .non] [] f fd) : ∃ ds, Vals ([] : List V) ds ∧ Binds K fd ["value", "least", "most"] ds :=
  F.binds1 (ps := ["value", "least", "most"]) 3 2 (fun z => nomatch z) rfl fun T kV doc pm an cdv ct us its h1 h2 => match us, h1, its, h2 with
    | [_, _, _], _, [_, _], _ => ⟨_, rfl, rfl⟩
set_option maxHeartbeats 0 in
theorem all_mk {l : PySem.W.OpenLaw} {w : World} {K : PySem.W.Frag} {h : Heap} {mg : Str → Option Value} {fa : Addr} (X : K.In h) (G : h.Ns mainGlobals mg) (hfa : mg "law" = some (.ref fa))
    {f_is_integer : Addr} {od_is_integer an_is_integer : Option Addr} {sl_is_integer : Array (Option Value)} {oc_is_integer kV_is_integer dc_is_integer pm_is_integer cd_is_integer ct_is_integer : Value}
    {f_is_permutation_of : Addr} {od_is_permutation_of an_is_permutation_of : Option Addr} {sl_is_permutation_of : Array (Option Value)} {oc_is_permutation_of kV_is_permutation_of dc_is_permutation_of pm_is_permutation_of cd_is_permutation_of ct_is_permutation_of : Value}
    {f_check_rule : Addr} {od_check_rule an_check_rule : Option Addr} {sl_check_rule : Array (Option Value)} {oc_check_rule kV_check_rule dc_check_rule pm_check_rule cd_check_rule ct_check_rule : Value}
    {f_places_of : Addr} {od_places_of an_places_of : Option Addr} {sl_places_of : Array (Option Value)} {oc_places_of kV_places_of dc_places_of pm_places_of cd_places_of ct_places_of : Value}
    {f_mask_behind : Addr} {od_mask_behind an_mask_behind : Option Addr} {sl_mask_behind : Array (Option Value)} {oc_mask_behind kV_mask_behind dc_mask_behind pm_mask_behind cd_mask_behind ct_mask_behind : Value}
    {f_longest_from : Addr} {od_longest_from an_longest_from : Option Addr} {sl_longest_from : Array (Option Value)} {oc_longest_from kV_longest_from dc_longest_from pm_longest_from cd_longest_from ct_longest_from : Value}
    {f_all_places : Addr} {od_all_places an_all_places : Option Addr} {sl_all_places : Array (Option Value)} {oc_all_places kV_all_places dc_all_places pm_all_places cd_all_places ct_all_places : Value}
    {f_forgets : Addr} {od_forgets an_forgets : Option Addr} {sl_forgets : Array (Option Value)} {oc_forgets kV_forgets dc_forgets pm_forgets cd_forgets ct_forgets : Value}
    {f_forgetting : Addr} {od_forgetting an_forgetting : Option Addr} {sl_forgetting : Array (Option Value)} {oc_forgetting kV_forgetting dc_forgetting pm_forgetting cd_forgetting ct_forgetting : Value}
    {f_shows_forgetting : Addr} {od_shows_forgetting an_shows_forgetting : Option Addr} {sl_shows_forgetting : Array (Option Value)} {oc_shows_forgetting kV_shows_forgetting dc_shows_forgetting pm_shows_forgetting cd_shows_forgetting ct_shows_forgetting : Value}
    {f_check_place : Addr} {od_check_place an_check_place : Option Addr} {sl_check_place : Array (Option Value)} {oc_check_place kV_check_place dc_check_place pm_check_place cd_check_place ct_check_place : Value}
    {f_check_gap : Addr} {od_check_gap an_check_gap : Option Addr} {sl_check_gap : Array (Option Value)} {oc_check_gap kV_check_gap dc_check_gap pm_check_gap cd_check_gap ct_check_gap : Value}
    {f_moves_at : Addr} {od_moves_at an_moves_at : Option Addr} {sl_moves_at : Array (Option Value)} {oc_moves_at kV_moves_at dc_moves_at pm_moves_at cd_moves_at ct_moves_at : Value}
    {f_shortest_out : Addr} {od_shortest_out an_shortest_out : Option Addr} {sl_shortest_out : Array (Option Value)} {oc_shortest_out kV_shortest_out dc_shortest_out pm_shortest_out cd_shortest_out ct_shortest_out : Value}
    {f_shortest_lost : Addr} {od_shortest_lost an_shortest_lost : Option Addr} {sl_shortest_lost : Array (Option Value)} {oc_shortest_lost kV_shortest_lost dc_shortest_lost pm_shortest_lost cd_shortest_lost ct_shortest_lost : Value}
    {f_greatest_gap : Addr} {od_greatest_gap an_greatest_gap : Option Addr} {sl_greatest_gap : Array (Option Value)} {oc_greatest_gap kV_greatest_gap dc_greatest_gap pm_greatest_gap cd_greatest_gap ct_greatest_gap : Value}
    {f_life : Addr} {od_life an_life : Option Addr} {sl_life : Array (Option Value)} {oc_life kV_life dc_life pm_life cd_life ct_life : Value}
    {f_way_out : Addr} {od_way_out an_way_out : Option Addr} {sl_way_out : Array (Option Value)} {oc_way_out kV_way_out dc_way_out pm_way_out cd_way_out ct_way_out : Value}
    {f_is_item : Addr} {od_is_item an_is_item : Option Addr} {sl_is_item : Array (Option Value)} {oc_is_item kV_is_item dc_is_item pm_is_item cd_is_item ct_is_item : Value}
    {f_place_behind : Addr} {od_place_behind an_place_behind : Option Addr} {sl_place_behind : Array (Option Value)} {oc_place_behind kV_place_behind dc_place_behind pm_place_behind cd_place_behind ct_place_behind : Value}
    {f_is_way_out : Addr} {od_is_way_out an_is_way_out : Option Addr} {sl_is_way_out : Array (Option Value)} {oc_is_way_out kV_is_way_out dc_is_way_out pm_is_way_out cd_is_way_out ct_is_way_out : Value}
    {f_keeps : Addr} {od_keeps an_keeps : Option Addr} {sl_keeps : Array (Option Value)} {oc_keeps kV_keeps dc_keeps pm_keeps cd_keeps ct_keeps : Value}
    {f_lost_way : Addr} {od_lost_way an_lost_way : Option Addr} {sl_lost_way : Array (Option Value)} {oc_lost_way kV_lost_way dc_lost_way pm_lost_way cd_lost_way ct_lost_way : Value}
    {f_most_others : Addr} {od_most_others an_most_others : Option Addr} {sl_most_others : Array (Option Value)} {oc_most_others kV_most_others dc_most_others pm_most_others cd_most_others ct_most_others : Value}
    {f_is_lost_way : Addr} {od_is_lost_way an_is_lost_way : Option Addr} {sl_is_lost_way : Array (Option Value)} {oc_is_lost_way kV_is_lost_way dc_is_lost_way pm_is_lost_way cd_is_lost_way ct_is_lost_way : Value}
    {f_law_bag : Addr} {od_law_bag an_law_bag : Option Addr} {sl_law_bag : Array (Option Value)} {oc_law_bag kV_law_bag dc_law_bag pm_law_bag cd_law_bag ct_law_bag : Value}
    {f_law_draw : Addr} {od_law_draw an_law_draw : Option Addr} {sl_law_draw : Array (Option Value)} {oc_law_draw kV_law_draw dc_law_draw pm_law_draw cd_law_draw ct_law_draw : Value}
    {f_law_shuffle : Addr} {od_law_shuffle an_law_shuffle : Option Addr} {sl_law_shuffle : Array (Option Value)} {oc_law_shuffle kV_law_shuffle dc_law_shuffle pm_law_shuffle cd_law_shuffle ct_law_shuffle : Value}
    {f_law_lifted : Addr} {od_law_lifted an_law_lifted : Option Addr} {sl_law_lifted : Array (Option Value)} {oc_law_lifted kV_law_lifted dc_law_lifted pm_law_lifted cd_law_lifted ct_law_lifted : Value}
    {f_law_some_rule : Addr} {od_law_some_rule an_law_some_rule : Option Addr} {sl_law_some_rule : Array (Option Value)} {oc_law_some_rule kV_law_some_rule dc_law_some_rule pm_law_some_rule cd_law_some_rule ct_law_some_rule : Value}
    {f_law_later : Addr} {od_law_later an_law_later : Option Addr} {sl_law_later : Array (Option Value)} {oc_law_later kV_law_later dc_law_later pm_law_later cd_law_later ct_law_later : Value}
    {f_law_forgets : Addr} {od_law_forgets an_law_forgets : Option Addr} {sl_law_forgets : Array (Option Value)} {oc_law_forgets kV_law_forgets dc_law_forgets pm_law_forgets cd_law_forgets ct_law_forgets : Value}
    {f_law_history_right : Addr} {od_law_history_right an_law_history_right : Option Addr} {sl_law_history_right : Array (Option Value)} {oc_law_history_right kV_law_history_right dc_law_history_right pm_law_history_right cd_law_history_right ct_law_history_right : Value}
    {f_law_life : Addr} {od_law_life an_law_life : Option Addr} {sl_law_life : Array (Option Value)} {oc_law_life kV_law_life dc_law_life pm_law_life cd_law_life ct_law_life : Value}
    {f_law_lost : Addr} {od_law_lost an_law_lost : Option Addr} {sl_law_lost : Array (Option Value)} {oc_law_lost kV_law_lost dc_law_lost pm_law_lost cd_law_lost ct_law_lost : Value}
    {f_law_walk : Addr} {od_law_walk an_law_walk : Option Addr} {sl_law_walk : Array (Option Value)} {oc_law_walk kV_law_walk dc_law_walk pm_law_walk cd_law_walk ct_law_walk : Value}
    {f_law_keeping_right : Addr} {od_law_keeping_right an_law_keeping_right : Option Addr} {sl_law_keeping_right : Array (Option Value)} {oc_law_keeping_right kV_law_keeping_right dc_law_keeping_right pm_law_keeping_right cd_law_keeping_right ct_law_keeping_right : Value}
    {f_law_right : Addr} {od_law_right an_law_right : Option Addr} {sl_law_right : Array (Option Value)} {oc_law_right kV_law_right dc_law_right pm_law_right cd_law_right ct_law_right : Value}
    {f_law : Addr} {od_law an_law : Option Addr} {sl_law : Array (Option Value)} {oc_law kV_law dc_law pm_law cd_law ct_law : Value}
    {tD : Addr} {ocT : Value} {odT : Option Addr} {nT : Nat} {slT : Array (Option Value)}
    {t_LEAST_PLACES : Tok}
    {t_MOST_PLACES : Tok}
    {t_MOST_GAP : Tok}
    {t_OWN : Tok}
    (a_is_integer : PySem.W.nsIn K mainGlobals "is_integer" = some (some (.ref f_is_integer)))
    (l_is_integer : K.lookup f_is_integer = some ⟨oc_is_integer, od_is_integer, .func (PySem.W.fnOf "is_integer" "is_integer" (defArgs s_is_integer) (defBody s_is_integer) (defScope s_is_integer) (.ref tD) kV_is_integer dc_is_integer pm_is_integer an_is_integer cd_is_integer ct_is_integer), sl_is_integer⟩)
    (c_is_integer : PySem.W.codeIn K cd_is_integer "is_integer" = true) (k_is_integer : PySem.W.keepIn K (.ref f_is_integer) = true)
    (a_is_permutation_of : PySem.W.nsIn K mainGlobals "is_permutation_of" = some (some (.ref f_is_permutation_of)))
    (l_is_permutation_of : K.lookup f_is_permutation_of = some ⟨oc_is_permutation_of, od_is_permutation_of, .func (PySem.W.fnOf "is_permutation_of" "is_permutation_of" (defArgs s_is_permutation_of) (defBody s_is_permutation_of) (defScope s_is_permutation_of) .none kV_is_permutation_of dc_is_permutation_of pm_is_permutation_of an_is_permutation_of cd_is_permutation_of ct_is_permutation_of), sl_is_permutation_of⟩)
    (c_is_permutation_of : PySem.W.codeIn K cd_is_permutation_of "is_permutation_of" = true) (k_is_permutation_of : PySem.W.keepIn K (.ref f_is_permutation_of) = true)
    (a_check_rule : PySem.W.nsIn K mainGlobals "check_rule" = some (some (.ref f_check_rule)))
    (l_check_rule : K.lookup f_check_rule = some ⟨oc_check_rule, od_check_rule, .func (PySem.W.fnOf "check_rule" "check_rule" (defArgs s_check_rule) (defBody s_check_rule) (defScope s_check_rule) .none kV_check_rule dc_check_rule pm_check_rule an_check_rule cd_check_rule ct_check_rule), sl_check_rule⟩)
    (c_check_rule : PySem.W.codeIn K cd_check_rule "check_rule" = true) (k_check_rule : PySem.W.keepIn K (.ref f_check_rule) = true)
    (a_places_of : PySem.W.nsIn K mainGlobals "places_of" = some (some (.ref f_places_of)))
    (l_places_of : K.lookup f_places_of = some ⟨oc_places_of, od_places_of, .func (PySem.W.fnOf "places_of" "places_of" (defArgs s_places_of) (defBody s_places_of) (defScope s_places_of) .none kV_places_of dc_places_of pm_places_of an_places_of cd_places_of ct_places_of), sl_places_of⟩)
    (c_places_of : PySem.W.codeIn K cd_places_of "places_of" = true) (k_places_of : PySem.W.keepIn K (.ref f_places_of) = true)
    (a_mask_behind : PySem.W.nsIn K mainGlobals "mask_behind" = some (some (.ref f_mask_behind)))
    (l_mask_behind : K.lookup f_mask_behind = some ⟨oc_mask_behind, od_mask_behind, .func (PySem.W.fnOf "mask_behind" "mask_behind" (defArgs s_mask_behind) (defBody s_mask_behind) (defScope s_mask_behind) .none kV_mask_behind dc_mask_behind pm_mask_behind an_mask_behind cd_mask_behind ct_mask_behind), sl_mask_behind⟩)
    (c_mask_behind : PySem.W.codeIn K cd_mask_behind "mask_behind" = true) (k_mask_behind : PySem.W.keepIn K (.ref f_mask_behind) = true)
    (a_longest_from : PySem.W.nsIn K mainGlobals "longest_from" = some (some (.ref f_longest_from)))
    (l_longest_from : K.lookup f_longest_from = some ⟨oc_longest_from, od_longest_from, .func (PySem.W.fnOf "longest_from" "longest_from" (defArgs s_longest_from) (defBody s_longest_from) (defScope s_longest_from) .none kV_longest_from dc_longest_from pm_longest_from an_longest_from cd_longest_from ct_longest_from), sl_longest_from⟩)
    (c_longest_from : PySem.W.codeIn K cd_longest_from "longest_from" = true) (k_longest_from : PySem.W.keepIn K (.ref f_longest_from) = true)
    (a_all_places : PySem.W.nsIn K mainGlobals "all_places" = some (some (.ref f_all_places)))
    (l_all_places : K.lookup f_all_places = some ⟨oc_all_places, od_all_places, .func (PySem.W.fnOf "all_places" "all_places" (defArgs s_all_places) (defBody s_all_places) (defScope s_all_places) .none kV_all_places dc_all_places pm_all_places an_all_places cd_all_places ct_all_places), sl_all_places⟩)
    (c_all_places : PySem.W.codeIn K cd_all_places "all_places" = true) (k_all_places : PySem.W.keepIn K (.ref f_all_places) = true)
    (a_forgets : PySem.W.nsIn K mainGlobals "forgets" = some (some (.ref f_forgets)))
    (l_forgets : K.lookup f_forgets = some ⟨oc_forgets, od_forgets, .func (PySem.W.fnOf "forgets" "forgets" (defArgs s_forgets) (defBody s_forgets) (defScope s_forgets) .none kV_forgets dc_forgets pm_forgets an_forgets cd_forgets ct_forgets), sl_forgets⟩)
    (c_forgets : PySem.W.codeIn K cd_forgets "forgets" = true) (k_forgets : PySem.W.keepIn K (.ref f_forgets) = true)
    (a_forgetting : PySem.W.nsIn K mainGlobals "forgetting" = some (some (.ref f_forgetting)))
    (l_forgetting : K.lookup f_forgetting = some ⟨oc_forgetting, od_forgetting, .func (PySem.W.fnOf "forgetting" "forgetting" (defArgs s_forgetting) (defBody s_forgetting) (defScope s_forgetting) .none kV_forgetting dc_forgetting pm_forgetting an_forgetting cd_forgetting ct_forgetting), sl_forgetting⟩)
    (c_forgetting : PySem.W.codeIn K cd_forgetting "forgetting" = true) (k_forgetting : PySem.W.keepIn K (.ref f_forgetting) = true)
    (a_shows_forgetting : PySem.W.nsIn K mainGlobals "shows_forgetting" = some (some (.ref f_shows_forgetting)))
    (l_shows_forgetting : K.lookup f_shows_forgetting = some ⟨oc_shows_forgetting, od_shows_forgetting, .func (PySem.W.fnOf "shows_forgetting" "shows_forgetting" (defArgs s_shows_forgetting) (defBody s_shows_forgetting) (defScope s_shows_forgetting) .none kV_shows_forgetting dc_shows_forgetting pm_shows_forgetting an_shows_forgetting cd_shows_forgetting ct_shows_forgetting), sl_shows_forgetting⟩)
    (c_shows_forgetting : PySem.W.codeIn K cd_shows_forgetting "shows_forgetting" = true) (k_shows_forgetting : PySem.W.keepIn K (.ref f_shows_forgetting) = true)
    (a_check_place : PySem.W.nsIn K mainGlobals "check_place" = some (some (.ref f_check_place)))
    (l_check_place : K.lookup f_check_place = some ⟨oc_check_place, od_check_place, .func (PySem.W.fnOf "check_place" "check_place" (defArgs s_check_place) (defBody s_check_place) (defScope s_check_place) .none kV_check_place dc_check_place pm_check_place an_check_place cd_check_place ct_check_place), sl_check_place⟩)
    (c_check_place : PySem.W.codeIn K cd_check_place "check_place" = true) (k_check_place : PySem.W.keepIn K (.ref f_check_place) = true)
    (a_check_gap : PySem.W.nsIn K mainGlobals "check_gap" = some (some (.ref f_check_gap)))
    (l_check_gap : K.lookup f_check_gap = some ⟨oc_check_gap, od_check_gap, .func (PySem.W.fnOf "check_gap" "check_gap" (defArgs s_check_gap) (defBody s_check_gap) (defScope s_check_gap) .none kV_check_gap dc_check_gap pm_check_gap an_check_gap cd_check_gap ct_check_gap), sl_check_gap⟩)
    (c_check_gap : PySem.W.codeIn K cd_check_gap "check_gap" = true) (k_check_gap : PySem.W.keepIn K (.ref f_check_gap) = true)
    (a_moves_at : PySem.W.nsIn K mainGlobals "moves_at" = some (some (.ref f_moves_at)))
    (l_moves_at : K.lookup f_moves_at = some ⟨oc_moves_at, od_moves_at, .func (PySem.W.fnOf "moves_at" "moves_at" (defArgs s_moves_at) (defBody s_moves_at) (defScope s_moves_at) .none kV_moves_at dc_moves_at pm_moves_at an_moves_at cd_moves_at ct_moves_at), sl_moves_at⟩)
    (c_moves_at : PySem.W.codeIn K cd_moves_at "moves_at" = true) (k_moves_at : PySem.W.keepIn K (.ref f_moves_at) = true)
    (a_shortest_out : PySem.W.nsIn K mainGlobals "shortest_out" = some (some (.ref f_shortest_out)))
    (l_shortest_out : K.lookup f_shortest_out = some ⟨oc_shortest_out, od_shortest_out, .func (PySem.W.fnOf "shortest_out" "shortest_out" (defArgs s_shortest_out) (defBody s_shortest_out) (defScope s_shortest_out) .none kV_shortest_out dc_shortest_out pm_shortest_out an_shortest_out cd_shortest_out ct_shortest_out), sl_shortest_out⟩)
    (c_shortest_out : PySem.W.codeIn K cd_shortest_out "shortest_out" = true) (k_shortest_out : PySem.W.keepIn K (.ref f_shortest_out) = true)
    (a_shortest_lost : PySem.W.nsIn K mainGlobals "shortest_lost" = some (some (.ref f_shortest_lost)))
    (l_shortest_lost : K.lookup f_shortest_lost = some ⟨oc_shortest_lost, od_shortest_lost, .func (PySem.W.fnOf "shortest_lost" "shortest_lost" (defArgs s_shortest_lost) (defBody s_shortest_lost) (defScope s_shortest_lost) .none kV_shortest_lost dc_shortest_lost pm_shortest_lost an_shortest_lost cd_shortest_lost ct_shortest_lost), sl_shortest_lost⟩)
    (c_shortest_lost : PySem.W.codeIn K cd_shortest_lost "shortest_lost" = true) (k_shortest_lost : PySem.W.keepIn K (.ref f_shortest_lost) = true)
    (a_greatest_gap : PySem.W.nsIn K mainGlobals "greatest_gap" = some (some (.ref f_greatest_gap)))
    (l_greatest_gap : K.lookup f_greatest_gap = some ⟨oc_greatest_gap, od_greatest_gap, .func (PySem.W.fnOf "greatest_gap" "greatest_gap" (defArgs s_greatest_gap) (defBody s_greatest_gap) (defScope s_greatest_gap) .none kV_greatest_gap dc_greatest_gap pm_greatest_gap an_greatest_gap cd_greatest_gap ct_greatest_gap), sl_greatest_gap⟩)
    (c_greatest_gap : PySem.W.codeIn K cd_greatest_gap "greatest_gap" = true) (k_greatest_gap : PySem.W.keepIn K (.ref f_greatest_gap) = true)
    (a_life : PySem.W.nsIn K mainGlobals "life" = some (some (.ref f_life)))
    (l_life : K.lookup f_life = some ⟨oc_life, od_life, .func (PySem.W.fnOf "life" "life" (defArgs s_life) (defBody s_life) (defScope s_life) .none kV_life dc_life pm_life an_life cd_life ct_life), sl_life⟩)
    (c_life : PySem.W.codeIn K cd_life "life" = true) (k_life : PySem.W.keepIn K (.ref f_life) = true)
    (a_way_out : PySem.W.nsIn K mainGlobals "way_out" = some (some (.ref f_way_out)))
    (l_way_out : K.lookup f_way_out = some ⟨oc_way_out, od_way_out, .func (PySem.W.fnOf "way_out" "way_out" (defArgs s_way_out) (defBody s_way_out) (defScope s_way_out) .none kV_way_out dc_way_out pm_way_out an_way_out cd_way_out ct_way_out), sl_way_out⟩)
    (c_way_out : PySem.W.codeIn K cd_way_out "way_out" = true) (k_way_out : PySem.W.keepIn K (.ref f_way_out) = true)
    (a_is_item : PySem.W.nsIn K mainGlobals "is_item" = some (some (.ref f_is_item)))
    (l_is_item : K.lookup f_is_item = some ⟨oc_is_item, od_is_item, .func (PySem.W.fnOf "is_item" "is_item" (defArgs s_is_item) (defBody s_is_item) (defScope s_is_item) .none kV_is_item dc_is_item pm_is_item an_is_item cd_is_item ct_is_item), sl_is_item⟩)
    (c_is_item : PySem.W.codeIn K cd_is_item "is_item" = true) (k_is_item : PySem.W.keepIn K (.ref f_is_item) = true)
    (a_place_behind : PySem.W.nsIn K mainGlobals "place_behind" = some (some (.ref f_place_behind)))
    (l_place_behind : K.lookup f_place_behind = some ⟨oc_place_behind, od_place_behind, .func (PySem.W.fnOf "place_behind" "place_behind" (defArgs s_place_behind) (defBody s_place_behind) (defScope s_place_behind) .none kV_place_behind dc_place_behind pm_place_behind an_place_behind cd_place_behind ct_place_behind), sl_place_behind⟩)
    (c_place_behind : PySem.W.codeIn K cd_place_behind "place_behind" = true) (k_place_behind : PySem.W.keepIn K (.ref f_place_behind) = true)
    (a_is_way_out : PySem.W.nsIn K mainGlobals "is_way_out" = some (some (.ref f_is_way_out)))
    (l_is_way_out : K.lookup f_is_way_out = some ⟨oc_is_way_out, od_is_way_out, .func (PySem.W.fnOf "is_way_out" "is_way_out" (defArgs s_is_way_out) (defBody s_is_way_out) (defScope s_is_way_out) .none kV_is_way_out dc_is_way_out pm_is_way_out an_is_way_out cd_is_way_out ct_is_way_out), sl_is_way_out⟩)
    (c_is_way_out : PySem.W.codeIn K cd_is_way_out "is_way_out" = true) (k_is_way_out : PySem.W.keepIn K (.ref f_is_way_out) = true)
    (a_keeps : PySem.W.nsIn K mainGlobals "keeps" = some (some (.ref f_keeps)))
    (l_keeps : K.lookup f_keeps = some ⟨oc_keeps, od_keeps, .func (PySem.W.fnOf "keeps" "keeps" (defArgs s_keeps) (defBody s_keeps) (defScope s_keeps) .none kV_keeps dc_keeps pm_keeps an_keeps cd_keeps ct_keeps), sl_keeps⟩)
    (c_keeps : PySem.W.codeIn K cd_keeps "keeps" = true) (k_keeps : PySem.W.keepIn K (.ref f_keeps) = true)
    (a_lost_way : PySem.W.nsIn K mainGlobals "lost_way" = some (some (.ref f_lost_way)))
    (l_lost_way : K.lookup f_lost_way = some ⟨oc_lost_way, od_lost_way, .func (PySem.W.fnOf "lost_way" "lost_way" (defArgs s_lost_way) (defBody s_lost_way) (defScope s_lost_way) .none kV_lost_way dc_lost_way pm_lost_way an_lost_way cd_lost_way ct_lost_way), sl_lost_way⟩)
    (c_lost_way : PySem.W.codeIn K cd_lost_way "lost_way" = true) (k_lost_way : PySem.W.keepIn K (.ref f_lost_way) = true)
    (a_most_others : PySem.W.nsIn K mainGlobals "most_others" = some (some (.ref f_most_others)))
    (l_most_others : K.lookup f_most_others = some ⟨oc_most_others, od_most_others, .func (PySem.W.fnOf "most_others" "most_others" (defArgs s_most_others) (defBody s_most_others) (defScope s_most_others) .none kV_most_others dc_most_others pm_most_others an_most_others cd_most_others ct_most_others), sl_most_others⟩)
    (c_most_others : PySem.W.codeIn K cd_most_others "most_others" = true) (k_most_others : PySem.W.keepIn K (.ref f_most_others) = true)
    (a_is_lost_way : PySem.W.nsIn K mainGlobals "is_lost_way" = some (some (.ref f_is_lost_way)))
    (l_is_lost_way : K.lookup f_is_lost_way = some ⟨oc_is_lost_way, od_is_lost_way, .func (PySem.W.fnOf "is_lost_way" "is_lost_way" (defArgs s_is_lost_way) (defBody s_is_lost_way) (defScope s_is_lost_way) .none kV_is_lost_way dc_is_lost_way pm_is_lost_way an_is_lost_way cd_is_lost_way ct_is_lost_way), sl_is_lost_way⟩)
    (c_is_lost_way : PySem.W.codeIn K cd_is_lost_way "is_lost_way" = true) (k_is_lost_way : PySem.W.keepIn K (.ref f_is_lost_way) = true)
    (a_law_bag : PySem.W.nsIn K mainGlobals "_law_bag" = some (some (.ref f_law_bag)))
    (l_law_bag : K.lookup f_law_bag = some ⟨oc_law_bag, od_law_bag, .func (PySem.W.fnOf "_law_bag" "_law_bag" (defArgs s_law_bag) (defBody s_law_bag) (defScope s_law_bag) .none kV_law_bag dc_law_bag pm_law_bag an_law_bag cd_law_bag ct_law_bag), sl_law_bag⟩)
    (c_law_bag : PySem.W.codeIn K cd_law_bag "_law_bag" = true) (k_law_bag : PySem.W.keepIn K (.ref f_law_bag) = true)
    (a_law_draw : PySem.W.nsIn K mainGlobals "_law_draw" = some (some (.ref f_law_draw)))
    (l_law_draw : K.lookup f_law_draw = some ⟨oc_law_draw, od_law_draw, .func (PySem.W.fnOf "_law_draw" "_law_draw" (defArgs s_law_draw) (defBody s_law_draw) (defScope s_law_draw) .none kV_law_draw dc_law_draw pm_law_draw an_law_draw cd_law_draw ct_law_draw), sl_law_draw⟩)
    (c_law_draw : PySem.W.codeIn K cd_law_draw "_law_draw" = true) (k_law_draw : PySem.W.keepIn K (.ref f_law_draw) = true)
    (a_law_shuffle : PySem.W.nsIn K mainGlobals "_law_shuffle" = some (some (.ref f_law_shuffle)))
    (l_law_shuffle : K.lookup f_law_shuffle = some ⟨oc_law_shuffle, od_law_shuffle, .func (PySem.W.fnOf "_law_shuffle" "_law_shuffle" (defArgs s_law_shuffle) (defBody s_law_shuffle) (defScope s_law_shuffle) .none kV_law_shuffle dc_law_shuffle pm_law_shuffle an_law_shuffle cd_law_shuffle ct_law_shuffle), sl_law_shuffle⟩)
    (c_law_shuffle : PySem.W.codeIn K cd_law_shuffle "_law_shuffle" = true) (k_law_shuffle : PySem.W.keepIn K (.ref f_law_shuffle) = true)
    (a_law_lifted : PySem.W.nsIn K mainGlobals "_law_lifted" = some (some (.ref f_law_lifted)))
    (l_law_lifted : K.lookup f_law_lifted = some ⟨oc_law_lifted, od_law_lifted, .func (PySem.W.fnOf "_law_lifted" "_law_lifted" (defArgs s_law_lifted) (defBody s_law_lifted) (defScope s_law_lifted) .none kV_law_lifted dc_law_lifted pm_law_lifted an_law_lifted cd_law_lifted ct_law_lifted), sl_law_lifted⟩)
    (c_law_lifted : PySem.W.codeIn K cd_law_lifted "_law_lifted" = true) (k_law_lifted : PySem.W.keepIn K (.ref f_law_lifted) = true)
    (a_law_some_rule : PySem.W.nsIn K mainGlobals "_law_some_rule" = some (some (.ref f_law_some_rule)))
    (l_law_some_rule : K.lookup f_law_some_rule = some ⟨oc_law_some_rule, od_law_some_rule, .func (PySem.W.fnOf "_law_some_rule" "_law_some_rule" (defArgs s_law_some_rule) (defBody s_law_some_rule) (defScope s_law_some_rule) .none kV_law_some_rule dc_law_some_rule pm_law_some_rule an_law_some_rule cd_law_some_rule ct_law_some_rule), sl_law_some_rule⟩)
    (c_law_some_rule : PySem.W.codeIn K cd_law_some_rule "_law_some_rule" = true) (k_law_some_rule : PySem.W.keepIn K (.ref f_law_some_rule) = true)
    (a_law_later : PySem.W.nsIn K mainGlobals "_law_later" = some (some (.ref f_law_later)))
    (l_law_later : K.lookup f_law_later = some ⟨oc_law_later, od_law_later, .func (PySem.W.fnOf "_law_later" "_law_later" (defArgs s_law_later) (defBody s_law_later) (defScope s_law_later) .none kV_law_later dc_law_later pm_law_later an_law_later cd_law_later ct_law_later), sl_law_later⟩)
    (c_law_later : PySem.W.codeIn K cd_law_later "_law_later" = true) (k_law_later : PySem.W.keepIn K (.ref f_law_later) = true)
    (a_law_forgets : PySem.W.nsIn K mainGlobals "_law_forgets" = some (some (.ref f_law_forgets)))
    (l_law_forgets : K.lookup f_law_forgets = some ⟨oc_law_forgets, od_law_forgets, .func (PySem.W.fnOf "_law_forgets" "_law_forgets" (defArgs s_law_forgets) (defBody s_law_forgets) (defScope s_law_forgets) .none kV_law_forgets dc_law_forgets pm_law_forgets an_law_forgets cd_law_forgets ct_law_forgets), sl_law_forgets⟩)
    (c_law_forgets : PySem.W.codeIn K cd_law_forgets "_law_forgets" = true) (k_law_forgets : PySem.W.keepIn K (.ref f_law_forgets) = true)
    (a_law_history_right : PySem.W.nsIn K mainGlobals "_law_history_right" = some (some (.ref f_law_history_right)))
    (l_law_history_right : K.lookup f_law_history_right = some ⟨oc_law_history_right, od_law_history_right, .func (PySem.W.fnOf "_law_history_right" "_law_history_right" (defArgs s_law_history_right) (defBody s_law_history_right) (defScope s_law_history_right) .none kV_law_history_right dc_law_history_right pm_law_history_right an_law_history_right cd_law_history_right ct_law_history_right), sl_law_history_right⟩)
    (c_law_history_right : PySem.W.codeIn K cd_law_history_right "_law_history_right" = true) (k_law_history_right : PySem.W.keepIn K (.ref f_law_history_right) = true)
    (a_law_life : PySem.W.nsIn K mainGlobals "_law_life" = some (some (.ref f_law_life)))
    (l_law_life : K.lookup f_law_life = some ⟨oc_law_life, od_law_life, .func (PySem.W.fnOf "_law_life" "_law_life" (defArgs s_law_life) (defBody s_law_life) (defScope s_law_life) .none kV_law_life dc_law_life pm_law_life an_law_life cd_law_life ct_law_life), sl_law_life⟩)
    (c_law_life : PySem.W.codeIn K cd_law_life "_law_life" = true) (k_law_life : PySem.W.keepIn K (.ref f_law_life) = true)
    (a_law_lost : PySem.W.nsIn K mainGlobals "_law_lost" = some (some (.ref f_law_lost)))
    (l_law_lost : K.lookup f_law_lost = some ⟨oc_law_lost, od_law_lost, .func (PySem.W.fnOf "_law_lost" "_law_lost" (defArgs s_law_lost) (defBody s_law_lost) (defScope s_law_lost) .none kV_law_lost dc_law_lost pm_law_lost an_law_lost cd_law_lost ct_law_lost), sl_law_lost⟩)
    (c_law_lost : PySem.W.codeIn K cd_law_lost "_law_lost" = true) (k_law_lost : PySem.W.keepIn K (.ref f_law_lost) = true)
    (a_law_walk : PySem.W.nsIn K mainGlobals "_law_walk" = some (some (.ref f_law_walk)))
    (l_law_walk : K.lookup f_law_walk = some ⟨oc_law_walk, od_law_walk, .func (PySem.W.fnOf "_law_walk" "_law_walk" (defArgs s_law_walk) (defBody s_law_walk) (defScope s_law_walk) .none kV_law_walk dc_law_walk pm_law_walk an_law_walk cd_law_walk ct_law_walk), sl_law_walk⟩)
    (c_law_walk : PySem.W.codeIn K cd_law_walk "_law_walk" = true) (k_law_walk : PySem.W.keepIn K (.ref f_law_walk) = true)
    (a_law_keeping_right : PySem.W.nsIn K mainGlobals "_law_keeping_right" = some (some (.ref f_law_keeping_right)))
    (l_law_keeping_right : K.lookup f_law_keeping_right = some ⟨oc_law_keeping_right, od_law_keeping_right, .func (PySem.W.fnOf "_law_keeping_right" "_law_keeping_right" (defArgs s_law_keeping_right) (defBody s_law_keeping_right) (defScope s_law_keeping_right) .none kV_law_keeping_right dc_law_keeping_right pm_law_keeping_right an_law_keeping_right cd_law_keeping_right ct_law_keeping_right), sl_law_keeping_right⟩)
    (c_law_keeping_right : PySem.W.codeIn K cd_law_keeping_right "_law_keeping_right" = true) (k_law_keeping_right : PySem.W.keepIn K (.ref f_law_keeping_right) = true)
    (a_law_right : PySem.W.nsIn K mainGlobals "_law_right" = some (some (.ref f_law_right)))
    (l_law_right : K.lookup f_law_right = some ⟨oc_law_right, od_law_right, .func (PySem.W.fnOf "_law_right" "_law_right" (defArgs s_law_right) (defBody s_law_right) (defScope s_law_right) .none kV_law_right dc_law_right pm_law_right an_law_right cd_law_right ct_law_right), sl_law_right⟩)
    (c_law_right : PySem.W.codeIn K cd_law_right "_law_right" = true) (k_law_right : PySem.W.keepIn K (.ref f_law_right) = true)
    (a_law : PySem.W.nsIn K mainGlobals "law" = some (some (.ref f_law)))
    (l_law : K.lookup f_law = some ⟨oc_law, od_law, .func (PySem.W.fnOf "law" "law" (defArgs s_law) (defBody s_law) (defScope s_law) .none kV_law dc_law pm_law an_law cd_law ct_law), sl_law⟩)
    (c_law : PySem.W.codeIn K cd_law "law" = true) (k_law : PySem.W.keepIn K (.ref f_law) = true)
    (l_T : K.lookup tD = some ⟨ocT, odT, .seq #[.none, .none] nT, slT⟩)
    (z_isinstance : PySem.W.nsIn K mainGlobals "isinstance" = some none)
    (z_len : PySem.W.nsIn K mainGlobals "len" = some none)
    (z_all : PySem.W.nsIn K mainGlobals "all" = some none)
    (z_max : PySem.W.nsIn K mainGlobals "max" = some none)
    (z_min : PySem.W.nsIn K mainGlobals "min" = some none)
    (z_sorted : PySem.W.nsIn K mainGlobals "sorted" = some none)
    (z_list : PySem.W.nsIn K mainGlobals "list" = some none)
    (z_int : PySem.W.nsIn K mainGlobals "int" = some none)
    (z_set : PySem.W.nsIn K mainGlobals "set" = some none)
    (z_dict : PySem.W.nsIn K mainGlobals "dict" = some none)
    (z_range : PySem.W.nsIn K mainGlobals "range" = some none)
    (z_enumerate : PySem.W.nsIn K mainGlobals "enumerate" = some none)
    (z_bool : PySem.W.nsIn K mainGlobals "bool" = some none)
    (z_str : PySem.W.nsIn K mainGlobals "str" = some none)
    (g_LEAST_PLACES : PySem.W.nsIn K mainGlobals "LEAST_PLACES" = some (some (.int 2 t_LEAST_PLACES)))
    (g_MOST_PLACES : PySem.W.nsIn K mainGlobals "MOST_PLACES" = some (some (.int 12 t_MOST_PLACES)))
    (g_MOST_GAP : PySem.W.nsIn K mainGlobals "MOST_GAP" = some (some (.int 100 t_MOST_GAP)))
    (g_OWN : PySem.W.nsIn K mainGlobals "OWN" = some (some (.str "own" t_OWN))) :
    ∃ fd : FuncData, (∀ (s : Shared) (v : Value), BindsTo s fd ⟨[v], []⟩ [("_law_script", v)]) ∧ ∀ base : Heap, K.In base → base.Ns mainGlobals mg → FnOk l.prog w K mg base CX0 23 fa fd ["_law_script"] (spLaw K) := by
  have e := hfa.symm.trans (PySem.W.mg_of X G a_law)
  cases e
  have FI := fund_mk (K := K) (dvs := [.non, .non]) l_is_integer c_is_integer k_is_integer (dfl2 l_T)
  obtain ⟨d1, v1, b1⟩ := bind1 FI
  obtain ⟨d3, v3, b3⟩ := bind3 FI
  have F_is_permutation_of := fun_mk (st := s_is_permutation_of) l_is_permutation_of c_is_permutation_of k_is_permutation_of
  have B_is_permutation_of := F_is_permutation_of.binds (ps := ["value", "size"]) fun _ _ _ _ _ _ us hl => match us, hl with | [_, _], _ => rfl
  have F_check_rule := fun_mk (st := s_check_rule) l_check_rule c_check_rule k_check_rule
  have B_check_rule := F_check_rule.binds (ps := ["value"]) fun _ _ _ _ _ _ us hl => match us, hl with | [_], _ => rfl
  have F_places_of := fun_mk (st := s_places_of) l_places_of c_places_of k_places_of
  have B_places_of := F_places_of.binds (ps := ["mask"]) fun _ _ _ _ _ _ us hl => match us, hl with | [_], _ => rfl
  have F_mask_behind := fun_mk (st := s_mask_behind) l_mask_behind c_mask_behind k_mask_behind
  have B_mask_behind := F_mask_behind.binds (ps := ["rule", "mask", "place"]) fun _ _ _ _ _ _ us hl => match us, hl with | [_, _, _], _ => rfl
  have F_longest_from := fun_mk (st := s_longest_from) l_longest_from c_longest_from k_longest_from
  have B_longest_from := F_longest_from.binds (ps := ["rule", "mask", "table"]) fun _ _ _ _ _ _ us hl => match us, hl with | [_, _, _], _ => rfl
  have F_all_places := fun_mk (st := s_all_places) l_all_places c_all_places k_all_places
  have B_all_places := F_all_places.binds (ps := ["rule"]) fun _ _ _ _ _ _ us hl => match us, hl with | [_], _ => rfl
  have F_forgets := fun_mk (st := s_forgets) l_forgets c_forgets k_forgets
  have B_forgets := F_forgets.binds (ps := ["rule"]) fun _ _ _ _ _ _ us hl => match us, hl with | [_], _ => rfl
  have F_forgetting := fun_mk (st := s_forgetting) l_forgetting c_forgetting k_forgetting
  have B_forgetting := F_forgetting.binds (ps := ["rule"]) fun _ _ _ _ _ _ us hl => match us, hl with | [_], _ => rfl
  have F_shows_forgetting := fun_mk (st := s_shows_forgetting) l_shows_forgetting c_shows_forgetting k_shows_forgetting
  have B_shows_forgetting := F_shows_forgetting.binds (ps := ["rule", "value"]) fun _ _ _ _ _ _ us hl => match us, hl with | [_, _], _ => rfl
  have F_check_place := fun_mk (st := s_check_place) l_check_place c_check_place k_check_place
  have B_check_place := F_check_place.binds (ps := ["rule", "value"]) fun _ _ _ _ _ _ us hl => match us, hl with | [_, _], _ => rfl
  have F_check_gap := fun_mk (st := s_check_gap) l_check_gap c_check_gap k_check_gap
  have B_check_gap := F_check_gap.binds (ps := ["value"]) fun _ _ _ _ _ _ us hl => match us, hl with | [_], _ => rfl
  have F_moves_at := fun_mk (st := s_moves_at) l_moves_at c_moves_at k_moves_at
  have B_moves_at := F_moves_at.binds (ps := ["rule", "place"]) fun _ _ _ _ _ _ us hl => match us, hl with | [_, _], _ => rfl
  have F_shortest_out := fun_mk (st := s_shortest_out) l_shortest_out c_shortest_out k_shortest_out
  have B_shortest_out := F_shortest_out.binds (ps := ["rule", "place"]) fun _ _ _ _ _ _ us hl => match us, hl with | [_, _], _ => rfl
  have F_shortest_lost := fun_mk (st := s_shortest_lost) l_shortest_lost c_shortest_lost k_shortest_lost
  have B_shortest_lost := F_shortest_lost.binds (ps := ["rule", "gap"]) fun _ _ _ _ _ _ us hl => match us, hl with | [_, _], _ => rfl
  have F_greatest_gap := fun_mk (st := s_greatest_gap) l_greatest_gap c_greatest_gap k_greatest_gap
  have B_greatest_gap := F_greatest_gap.binds (ps := ["rule"]) fun _ _ _ _ _ _ us hl => match us, hl with | [_], _ => rfl
  have F_life := fun_mk (st := s_life) l_life c_life k_life
  have B_life := F_life.binds (ps := ["rule", "place"]) fun _ _ _ _ _ _ us hl => match us, hl with | [_, _], _ => rfl
  have F_way_out := fun_mk (st := s_way_out) l_way_out c_way_out k_way_out
  have B_way_out := F_way_out.binds (ps := ["rule", "place"]) fun _ _ _ _ _ _ us hl => match us, hl with | [_, _], _ => rfl
  have F_is_item := fun_mk (st := s_is_item) l_is_item c_is_item k_is_item
  have B_is_item := F_is_item.binds (ps := ["value"]) fun _ _ _ _ _ _ us hl => match us, hl with | [_], _ => rfl
  have F_place_behind := fun_mk (st := s_place_behind) l_place_behind c_place_behind k_place_behind
  have B_place_behind := F_place_behind.binds (ps := ["rule", "place", "items"]) fun _ _ _ _ _ _ us hl => match us, hl with | [_, _, _], _ => rfl
  have F_is_way_out := fun_mk (st := s_is_way_out) l_is_way_out c_is_way_out k_is_way_out
  have B_is_way_out := F_is_way_out.binds (ps := ["rule", "place", "value"]) fun _ _ _ _ _ _ us hl => match us, hl with | [_, _, _], _ => rfl
  have F_keeps := fun_mk (st := s_keeps) l_keeps c_keeps k_keeps
  have B_keeps := F_keeps.binds (ps := ["rule"]) fun _ _ _ _ _ _ us hl => match us, hl with | [_], _ => rfl
  have F_lost_way := fun_mk (st := s_lost_way) l_lost_way c_lost_way k_lost_way
  have B_lost_way := F_lost_way.binds (ps := ["rule", "gap"]) fun _ _ _ _ _ _ us hl => match us, hl with | [_, _], _ => rfl
  have F_most_others := fun_mk (st := s_most_others) l_most_others c_most_others k_most_others
  have B_most_others := F_most_others.binds (ps := ["items"]) fun _ _ _ _ _ _ us hl => match us, hl with | [_], _ => rfl
  have F_is_lost_way := fun_mk (st := s_is_lost_way) l_is_lost_way c_is_lost_way k_is_lost_way
  have B_is_lost_way := F_is_lost_way.binds (ps := ["rule", "gap", "value"]) fun _ _ _ _ _ _ us hl => match us, hl with | [_, _, _], _ => rfl
  have F_law_bag := fun_mk (st := s_law_bag) l_law_bag c_law_bag k_law_bag
  have B_law_bag := F_law_bag.binds (ps := ["_law_cell", "_law_k"]) fun _ _ _ _ _ _ us hl => match us, hl with | [_, _], _ => rfl
  have F_law_draw := fun_mk (st := s_law_draw) l_law_draw c_law_draw k_law_draw
  have B_law_draw := F_law_draw.binds (ps := ["_law_bag_here", "_law_many"]) fun _ _ _ _ _ _ us hl => match us, hl with | [_, _], _ => rfl
  have F_law_shuffle := fun_mk (st := s_law_shuffle) l_law_shuffle c_law_shuffle k_law_shuffle
  have B_law_shuffle := F_law_shuffle.binds (ps := ["_law_bag_here", "_law_many"]) fun _ _ _ _ _ _ us hl => match us, hl with | [_, _], _ => rfl
  have F_law_lifted := fun_mk (st := s_law_lifted) l_law_lifted c_law_lifted k_law_lifted
  have B_law_lifted := F_law_lifted.binds (ps := ["_law_aims"]) fun _ _ _ _ _ _ us hl => match us, hl with | [_], _ => rfl
  have F_law_some_rule := fun_mk (st := s_law_some_rule) l_law_some_rule c_law_some_rule k_law_some_rule
  have B_law_some_rule := F_law_some_rule.binds (ps := ["_law_bag_here", "_law_k"]) fun _ _ _ _ _ _ us hl => match us, hl with | [_, _], _ => rfl
  have F_law_later := fun_mk (st := s_law_later) l_law_later c_law_later k_law_later
  have B_law_later := F_law_later.binds (ps := ["_law_plan", "_law_spots", "_law_call"]) fun _ _ _ _ _ _ us hl => match us, hl with | [_, _, _], _ => rfl
  have F_law_forgets := fun_mk (st := s_law_forgets) l_law_forgets c_law_forgets k_law_forgets
  have B_law_forgets := F_law_forgets.binds (ps := ["_law_plan"]) fun _ _ _ _ _ _ us hl => match us, hl with | [_], _ => rfl
  have F_law_history_right := fun_mk (st := s_law_history_right) l_law_history_right c_law_history_right k_law_history_right
  have B_law_history_right := F_law_history_right.binds (ps := ["_law_plan", "_law_calls"]) fun _ _ _ _ _ _ us hl => match us, hl with | [_, _], _ => rfl
  have F_law_life := fun_mk (st := s_law_life) l_law_life c_law_life k_law_life
  have B_law_life := F_law_life.binds (ps := ["_law_plan", "_law_place"]) fun _ _ _ _ _ _ us hl => match us, hl with | [_, _], _ => rfl
  have F_law_lost := fun_mk (st := s_law_lost) l_law_lost c_law_lost k_law_lost
  have B_law_lost := F_law_lost.binds (ps := ["_law_plan", "_law_gap"]) fun _ _ _ _ _ _ us hl => match us, hl with | [_, _], _ => rfl
  have F_law_walk := fun_mk (st := s_law_walk) l_law_walk c_law_walk k_law_walk
  have B_law_walk := F_law_walk.binds (ps := ["_law_plan", "_law_place", "_law_calls", "_law_gap"]) fun _ _ _ _ _ _ us hl => match us, hl with | [_, _, _, _], _ => rfl
  have F_law_keeping_right := fun_mk (st := s_law_keeping_right) l_law_keeping_right c_law_keeping_right k_law_keeping_right
  have B_law_keeping_right := F_law_keeping_right.binds (ps := ["_law_bag_here", "_law_plan"]) fun _ _ _ _ _ _ us hl => match us, hl with | [_, _], _ => rfl
  have F_law_right := fun_mk (st := s_law_right) l_law_right c_law_right k_law_right
  have B_law_right := F_law_right.binds (ps := ["_law_bag_here"]) fun _ _ _ _ _ _ us hl => match us, hl with | [_], _ => rfl
  have F_law := fun_mk (st := s_law) l_law c_law k_law
  have B_law := F_law.binds (ps := ["_law_script"]) fun _ _ _ _ _ _ us hl => match us, hl with | [_], _ => rfl
  let T : Tx K mg := {
    d1 := d1
    d3 := d3
    a_is_integer := f_is_integer
    d_is_integer := _
    h_is_integer := ⟨FI, PySem.W.mg_of X G a_is_integer, v1, b1, v3, b3⟩
    a_is_permutation_of := f_is_permutation_of
    d_is_permutation_of := _
    h_is_permutation_of := ⟨F_is_permutation_of, B_is_permutation_of, PySem.W.mg_of X G a_is_permutation_of⟩
    a_check_rule := f_check_rule
    d_check_rule := _
    h_check_rule := ⟨F_check_rule, B_check_rule, PySem.W.mg_of X G a_check_rule⟩
    a_places_of := f_places_of
    d_places_of := _
    h_places_of := ⟨F_places_of, B_places_of, PySem.W.mg_of X G a_places_of⟩
    a_mask_behind := f_mask_behind
    d_mask_behind := _
    h_mask_behind := ⟨F_mask_behind, B_mask_behind, PySem.W.mg_of X G a_mask_behind⟩
    a_longest_from := f_longest_from
    d_longest_from := _
    h_longest_from := ⟨F_longest_from, B_longest_from, PySem.W.mg_of X G a_longest_from⟩
    a_all_places := f_all_places
    d_all_places := _
    h_all_places := ⟨F_all_places, B_all_places, PySem.W.mg_of X G a_all_places⟩
    a_forgets := f_forgets
    d_forgets := _
    h_forgets := ⟨F_forgets, B_forgets, PySem.W.mg_of X G a_forgets⟩
    a_forgetting := f_forgetting
    d_forgetting := _
    h_forgetting := ⟨F_forgetting, B_forgetting, PySem.W.mg_of X G a_forgetting⟩
    a_shows_forgetting := f_shows_forgetting
    d_shows_forgetting := _
    h_shows_forgetting := ⟨F_shows_forgetting, B_shows_forgetting, PySem.W.mg_of X G a_shows_forgetting⟩
    a_check_place := f_check_place
    d_check_place := _
    h_check_place := ⟨F_check_place, B_check_place, PySem.W.mg_of X G a_check_place⟩
    a_check_gap := f_check_gap
    d_check_gap := _
    h_check_gap := ⟨F_check_gap, B_check_gap, PySem.W.mg_of X G a_check_gap⟩
    a_moves_at := f_moves_at
    d_moves_at := _
    h_moves_at := ⟨F_moves_at, B_moves_at, PySem.W.mg_of X G a_moves_at⟩
    a_shortest_out := f_shortest_out
    d_shortest_out := _
    h_shortest_out := ⟨F_shortest_out, B_shortest_out, PySem.W.mg_of X G a_shortest_out⟩
    a_shortest_lost := f_shortest_lost
    d_shortest_lost := _
    h_shortest_lost := ⟨F_shortest_lost, B_shortest_lost, PySem.W.mg_of X G a_shortest_lost⟩
    a_greatest_gap := f_greatest_gap
    d_greatest_gap := _
    h_greatest_gap := ⟨F_greatest_gap, B_greatest_gap, PySem.W.mg_of X G a_greatest_gap⟩
    a_life := f_life
    d_life := _
    h_life := ⟨F_life, B_life, PySem.W.mg_of X G a_life⟩
    a_way_out := f_way_out
    d_way_out := _
    h_way_out := ⟨F_way_out, B_way_out, PySem.W.mg_of X G a_way_out⟩
    a_is_item := f_is_item
    d_is_item := _
    h_is_item := ⟨F_is_item, B_is_item, PySem.W.mg_of X G a_is_item⟩
    a_place_behind := f_place_behind
    d_place_behind := _
    h_place_behind := ⟨F_place_behind, B_place_behind, PySem.W.mg_of X G a_place_behind⟩
    a_is_way_out := f_is_way_out
    d_is_way_out := _
    h_is_way_out := ⟨F_is_way_out, B_is_way_out, PySem.W.mg_of X G a_is_way_out⟩
    a_keeps := f_keeps
    d_keeps := _
    h_keeps := ⟨F_keeps, B_keeps, PySem.W.mg_of X G a_keeps⟩
    a_lost_way := f_lost_way
    d_lost_way := _
    h_lost_way := ⟨F_lost_way, B_lost_way, PySem.W.mg_of X G a_lost_way⟩
    a_most_others := f_most_others
    d_most_others := _
    h_most_others := ⟨F_most_others, B_most_others, PySem.W.mg_of X G a_most_others⟩
    a_is_lost_way := f_is_lost_way
    d_is_lost_way := _
    h_is_lost_way := ⟨F_is_lost_way, B_is_lost_way, PySem.W.mg_of X G a_is_lost_way⟩
    a_law_bag := f_law_bag
    d_law_bag := _
    h_law_bag := ⟨F_law_bag, B_law_bag, PySem.W.mg_of X G a_law_bag⟩
    a_law_draw := f_law_draw
    d_law_draw := _
    h_law_draw := ⟨F_law_draw, B_law_draw, PySem.W.mg_of X G a_law_draw⟩
    a_law_shuffle := f_law_shuffle
    d_law_shuffle := _
    h_law_shuffle := ⟨F_law_shuffle, B_law_shuffle, PySem.W.mg_of X G a_law_shuffle⟩
    a_law_lifted := f_law_lifted
    d_law_lifted := _
    h_law_lifted := ⟨F_law_lifted, B_law_lifted, PySem.W.mg_of X G a_law_lifted⟩
    a_law_some_rule := f_law_some_rule
    d_law_some_rule := _
    h_law_some_rule := ⟨F_law_some_rule, B_law_some_rule, PySem.W.mg_of X G a_law_some_rule⟩
    a_law_later := f_law_later
    d_law_later := _
    h_law_later := ⟨F_law_later, B_law_later, PySem.W.mg_of X G a_law_later⟩
    a_law_forgets := f_law_forgets
    d_law_forgets := _
    h_law_forgets := ⟨F_law_forgets, B_law_forgets, PySem.W.mg_of X G a_law_forgets⟩
    a_law_history_right := f_law_history_right
    d_law_history_right := _
    h_law_history_right := ⟨F_law_history_right, B_law_history_right, PySem.W.mg_of X G a_law_history_right⟩
    a_law_life := f_law_life
    d_law_life := _
    h_law_life := ⟨F_law_life, B_law_life, PySem.W.mg_of X G a_law_life⟩
    a_law_lost := f_law_lost
    d_law_lost := _
    h_law_lost := ⟨F_law_lost, B_law_lost, PySem.W.mg_of X G a_law_lost⟩
    a_law_walk := f_law_walk
    d_law_walk := _
    h_law_walk := ⟨F_law_walk, B_law_walk, PySem.W.mg_of X G a_law_walk⟩
    a_law_keeping_right := f_law_keeping_right
    d_law_keeping_right := _
    h_law_keeping_right := ⟨F_law_keeping_right, B_law_keeping_right, PySem.W.mg_of X G a_law_keeping_right⟩
    a_law_right := f_law_right
    d_law_right := _
    h_law_right := ⟨F_law_right, B_law_right, PySem.W.mg_of X G a_law_right⟩
    a_law := fa
    d_law := _
    h_law := ⟨F_law, B_law, PySem.W.mg_of X G a_law⟩
    z_isinstance := PySem.W.mg_none_of X G z_isinstance
    z_len := PySem.W.mg_none_of X G z_len
    z_all := PySem.W.mg_none_of X G z_all
    z_max := PySem.W.mg_none_of X G z_max
    z_min := PySem.W.mg_none_of X G z_min
    z_sorted := PySem.W.mg_none_of X G z_sorted
    z_list := PySem.W.mg_none_of X G z_list
    z_int := PySem.W.mg_none_of X G z_int
    z_set := PySem.W.mg_none_of X G z_set
    z_dict := PySem.W.mg_none_of X G z_dict
    z_range := PySem.W.mg_none_of X G z_range
    z_enumerate := PySem.W.mg_none_of X G z_enumerate
    z_bool := PySem.W.mg_none_of X G z_bool
    z_str := PySem.W.mg_none_of X G z_str
    t_LEAST_PLACES := t_LEAST_PLACES
    g_LEAST_PLACES := PySem.W.mg_of X G g_LEAST_PLACES
    t_MOST_PLACES := t_MOST_PLACES
    g_MOST_PLACES := PySem.W.mg_of X G g_MOST_PLACES
    t_MOST_GAP := t_MOST_GAP
    g_MOST_GAP := PySem.W.mg_of X G g_MOST_GAP
    t_OWN := t_OWN
    g_OWN := PySem.W.mg_of X G g_OWN }
  exact ⟨PySem.W.fnOf "law" "law" (defArgs s_law) (defBody s_law) (defScope s_law) .none kV_law dc_law pm_law an_law cd_law ct_law, fun s v => .of_eq rfl, fun base _ _ => ok_law T⟩
end K78
open PySem PySem.W PyProof.Rows
set_option maxHeartbeats 0 in
theorem PySem.Challenge.cw_goesnext_k78_whole_blocks_forgotten_holds : PySem.Challenge.rw_goesnext_k78_whole_blocks_forgotten.Holds := by
  w_on; o_law; k_head; (case hw => w_witness2)
  k_fill
  refine L2.walk_of (l := PySem.Challenge.rw_goesnext_k78_whole_blocks_forgotten) (n := 63) (k := 23) (x := "_law_script") (CX := fun _ => L2.CX0) (sp := fun w => K78.spLaw _) rfl (by decide) rfl ⟨rfl, by decide, by decide⟩ (fun w h Y => PySem.W.kIn_of Y) ?F (fun _ _ a ns hl _ hS => ⟨a, ns, rfl, hS, hl, fun _ => rfl⟩) (fun _ _ _ _ _ h => h)
  case F =>
    intro w mg fa h KX G hmg
    refine' K78.all_mk KX G hmg ?a_is_integer ?l_is_integer ?c_is_integer ?k_is_integer ?a_is_permutation_of ?l_is_permutation_of ?c_is_permutation_of ?k_is_permutation_of ?a_check_rule ?l_check_rule ?c_check_rule ?k_check_rule ?a_places_of ?l_places_of ?c_places_of ?k_places_of ?a_mask_behind ?l_mask_behind ?c_mask_behind ?k_mask_behind ?a_longest_from ?l_longest_from ?c_longest_from ?k_longest_from ?a_all_places ?l_all_places ?c_all_places ?k_all_places ?a_forgets ?l_forgets ?c_forgets ?k_forgets ?a_forgetting ?l_forgetting ?c_forgetting ?k_forgetting ?a_shows_forgetting ?l_shows_forgetting ?c_shows_forgetting ?k_shows_forgetting ?a_check_place ?l_check_place ?c_check_place ?k_check_place ?a_check_gap ?l_check_gap ?c_check_gap ?k_check_gap ?a_moves_at ?l_moves_at ?c_moves_at ?k_moves_at ?a_shortest_out ?l_shortest_out ?c_shortest_out ?k_shortest_out ?a_shortest_lost ?l_shortest_lost ?c_shortest_lost ?k_shortest_lost ?a_greatest_gap ?l_greatest_gap ?c_greatest_gap ?k_greatest_gap ?a_life ?l_life ?c_life ?k_life ?a_way_out ?l_way_out ?c_way_out ?k_way_out ?a_is_item ?l_is_item ?c_is_item ?k_is_item ?a_place_behind ?l_place_behind ?c_place_behind ?k_place_behind ?a_is_way_out ?l_is_way_out ?c_is_way_out ?k_is_way_out ?a_keeps ?l_keeps ?c_keeps ?k_keeps ?a_lost_way ?l_lost_way ?c_lost_way ?k_lost_way ?a_most_others ?l_most_others ?c_most_others ?k_most_others ?a_is_lost_way ?l_is_lost_way ?c_is_lost_way ?k_is_lost_way ?a_law_bag ?l_law_bag ?c_law_bag ?k_law_bag ?a_law_draw ?l_law_draw ?c_law_draw ?k_law_draw ?a_law_shuffle ?l_law_shuffle ?c_law_shuffle ?k_law_shuffle ?a_law_lifted ?l_law_lifted ?c_law_lifted ?k_law_lifted ?a_law_some_rule ?l_law_some_rule ?c_law_some_rule ?k_law_some_rule ?a_law_later ?l_law_later ?c_law_later ?k_law_later ?a_law_forgets ?l_law_forgets ?c_law_forgets ?k_law_forgets ?a_law_history_right ?l_law_history_right ?c_law_history_right ?k_law_history_right ?a_law_life ?l_law_life ?c_law_life ?k_law_life ?a_law_lost ?l_law_lost ?c_law_lost ?k_law_lost ?a_law_walk ?l_law_walk ?c_law_walk ?k_law_walk ?a_law_keeping_right ?l_law_keeping_right ?c_law_keeping_right ?k_law_keeping_right ?a_law_right ?l_law_right ?c_law_right ?k_law_right ?a_law ?l_law ?c_law ?k_law ?l_T ?z_isinstance ?z_len ?z_all ?z_max ?z_min ?z_sorted ?z_list ?z_int ?z_set ?z_dict ?z_range ?z_enumerate ?z_bool ?z_str ?g_LEAST_PLACES ?g_MOST_PLACES ?g_MOST_GAP ?g_OWN
    (case a_is_integer => k_is); (case l_is_integer => k_is); (case c_is_integer => k_is); (case k_is_integer => k_is)
    (case a_is_permutation_of => k_is); (case l_is_permutation_of => k_is); (case c_is_permutation_of => k_is); (case k_is_permutation_of => k_is)
    (case a_check_rule => k_is); (case l_check_rule => k_is); (case c_check_rule => k_is); (case k_check_rule => k_is)
    (case a_places_of => k_is); (case l_places_of => k_is); (case c_places_of => k_is); (case k_places_of => k_is)
    (case a_mask_behind => k_is); (case l_mask_behind => k_is); (case c_mask_behind => k_is); (case k_mask_behind => k_is)
    (case a_longest_from => k_is); (case l_longest_from => k_is); (case c_longest_from => k_is); (case k_longest_from => k_is)
    (case a_all_places => k_is); (case l_all_places => k_is); (case c_all_places => k_is); (case k_all_places => k_is)
    (case a_forgets => k_is); (case l_forgets => k_is); (case c_forgets => k_is); (case k_forgets => k_is)
    (case a_forgetting => k_is); (case l_forgetting => k_is); (case c_forgetting => k_is); (case k_forgetting => k_is)
    (case a_shows_forgetting => k_is); (case l_shows_forgetting => k_is); (case c_shows_forgetting => k_is); (case k_shows_forgetting => k_is)
    (case a_check_place => k_is); (case l_check_place => k_is); (case c_check_place => k_is); (case k_check_place => k_is)
    (case a_check_gap => k_is); (case l_check_gap => k_is); (case c_check_gap => k_is); (case k_check_gap => k_is)
    (case a_moves_at => k_is); (case l_moves_at => k_is); (case c_moves_at => k_is); (case k_moves_at => k_is)
    (case a_shortest_out => k_is); (case l_shortest_out => k_is); (case c_shortest_out => k_is); (case k_shortest_out => k_is)
    (case a_shortest_lost => k_is); (case l_shortest_lost => k_is); (case c_shortest_lost => k_is); (case k_shortest_lost => k_is)
    (case a_greatest_gap => k_is); (case l_greatest_gap => k_is); (case c_greatest_gap => k_is); (case k_greatest_gap => k_is)
    (case a_life => k_is); (case l_life => k_is); (case c_life => k_is); (case k_life => k_is)
    (case a_way_out => k_is); (case l_way_out => k_is); (case c_way_out => k_is); (case k_way_out => k_is)
    (case a_is_item => k_is); (case l_is_item => k_is); (case c_is_item => k_is); (case k_is_item => k_is)
    (case a_place_behind => k_is); (case l_place_behind => k_is); (case c_place_behind => k_is); (case k_place_behind => k_is)
    (case a_is_way_out => k_is); (case l_is_way_out => k_is); (case c_is_way_out => k_is); (case k_is_way_out => k_is)
    (case a_keeps => k_is); (case l_keeps => k_is); (case c_keeps => k_is); (case k_keeps => k_is)
    (case a_lost_way => k_is); (case l_lost_way => k_is); (case c_lost_way => k_is); (case k_lost_way => k_is)
    (case a_most_others => k_is); (case l_most_others => k_is); (case c_most_others => k_is); (case k_most_others => k_is)
    (case a_is_lost_way => k_is); (case l_is_lost_way => k_is); (case c_is_lost_way => k_is); (case k_is_lost_way => k_is)
    (case a_law_bag => k_is); (case l_law_bag => k_is); (case c_law_bag => k_is); (case k_law_bag => k_is)
    (case a_law_draw => k_is); (case l_law_draw => k_is); (case c_law_draw => k_is); (case k_law_draw => k_is)
    (case a_law_shuffle => k_is); (case l_law_shuffle => k_is); (case c_law_shuffle => k_is); (case k_law_shuffle => k_is)
    (case a_law_lifted => k_is); (case l_law_lifted => k_is); (case c_law_lifted => k_is); (case k_law_lifted => k_is)
    (case a_law_some_rule => k_is); (case l_law_some_rule => k_is); (case c_law_some_rule => k_is); (case k_law_some_rule => k_is)
    (case a_law_later => k_is); (case l_law_later => k_is); (case c_law_later => k_is); (case k_law_later => k_is)
    (case a_law_forgets => k_is); (case l_law_forgets => k_is); (case c_law_forgets => k_is); (case k_law_forgets => k_is)
    (case a_law_history_right => k_is); (case l_law_history_right => k_is); (case c_law_history_right => k_is); (case k_law_history_right => k_is)
    (case a_law_life => k_is); (case l_law_life => k_is); (case c_law_life => k_is); (case k_law_life => k_is)
    (case a_law_lost => k_is); (case l_law_lost => k_is); (case c_law_lost => k_is); (case k_law_lost => k_is)
    (case a_law_walk => k_is); (case l_law_walk => k_is); (case c_law_walk => k_is); (case k_law_walk => k_is)
    (case a_law_keeping_right => k_is); (case l_law_keeping_right => k_is); (case c_law_keeping_right => k_is); (case k_law_keeping_right => k_is)
    (case a_law_right => k_is); (case l_law_right => k_is); (case c_law_right => k_is); (case k_law_right => k_is)
    (case a_law => k_is); (case l_law => k_is); (case c_law => k_is); (case k_law => k_is)
    (case l_T => k_is); (case z_isinstance => k_is); (case z_len => k_is); (case z_all => k_is)
    (case z_max => k_is); (case z_min => k_is); (case z_sorted => k_is); (case z_list => k_is)
    (case z_int => k_is); (case z_set => k_is); (case z_dict => k_is); (case z_range => k_is)
    (case z_enumerate => k_is); (case z_bool => k_is); (case z_str => k_is); (case g_LEAST_PLACES => k_is)
    (case g_MOST_PLACES => k_is); (case g_MOST_GAP => k_is); (case g_OWN => k_is)
