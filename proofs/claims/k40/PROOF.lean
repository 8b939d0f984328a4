import PyProof.Rows.All
import Wide.All
import OpenK.AllK
import Wide.FinOn
import HandS.ForMost
import HandS.TupSets
import HandS.DictTup
import HandS.Style
import HandS.IsInst
import HandS.Conv
import KE.SortData
import KE.DataMinMax
import PySem.Challenge.RW_evenmeet_k40_whole_bases_taken_so_often
set_option Elab.async false
set_option linter.all false
set_option maxRecDepth 100000
set_option maxHeartbeats 4000000
-- part EvMath
namespace Ev

abbrev Blk := List Int

/-! ### sorting ints, sorting blocks -/
def srt (l : List Int) : List Int := l.mergeSort (fun a b => decide (a ≤ b))
theorem srt_perm (l : List Int) : (srt l).Perm l := List.mergeSort_perm _ _
theorem srt_sorted (l : List Int) : (srt l).Pairwise (· ≤ ·) := by
  have h := List.pairwise_mergeSort (le := fun a b : Int => decide (a ≤ b)) (fun a b c h1 h2 => by simp at *; omega) (fun a b => by simp; omega) l
  exact h.imp (fun h => by simpa using h)
theorem srt_uniq {l m : List Int} (p : m.Perm l) (h : m.Pairwise (· ≤ ·)) : m = srt l :=
  List.Perm.eq_of_pairwise (le := fun a b : Int => a ≤ b) (fun a b _ _ h1 h2 => Int.le_antisymm h1 h2) h (srt_sorted l) (p.trans (srt_perm l).symm)
theorem srt_congr {l m : List Int} (p : l.Perm m) : srt l = srt m := srt_uniq ((srt_perm l).trans p) (srt_sorted l)
theorem srt_id {l : List Int} (h : l.Pairwise (· ≤ ·)) : srt l = l := (srt_uniq (List.Perm.refl l) h).symm
theorem mem_srt {l : List Int} {x : Int} : x ∈ srt l ↔ x ∈ l := (srt_perm l).mem_iff

def srtB (L : List Blk) : List Blk := L.mergeSort (fun a b => decide (a ≤ b))
theorem srtB_perm (L : List Blk) : (srtB L).Perm L := List.mergeSort_perm _ _
theorem srtB_sorted (L : List Blk) : (srtB L).Pairwise (· ≤ ·) := by
  have h := List.pairwise_mergeSort (le := fun a b : Blk => decide (a ≤ b)) (fun a b c h1 h2 => by simp only [decide_eq_true_eq] at *; exact List.le_trans h1 h2) (fun a b => by simpa using List.le_total a b) L
  exact h.imp (fun h => by simpa using h)
theorem srtB_uniq {L M : List Blk} (p : M.Perm L) (h : M.Pairwise (· ≤ ·)) : M = srtB L :=
  List.Perm.eq_of_pairwise (le := fun a b : Blk => a ≤ b) (fun a b _ _ h1 h2 => List.le_antisymm h1 h2) h (srtB_sorted L) (p.trans (srtB_perm L).symm)
theorem srtB_congr {L M : List Blk} (p : L.Perm M) : srtB L = srtB M := srtB_uniq ((srtB_perm L).trans p) (srtB_sorted L)

/-! ### reindexing range n -/
theorem perm_of_nodup {α : Type} {l m : List α} (h : l.Nodup) (hs : ∀ x ∈ l, x ∈ m) (hl : m.length ≤ l.length) (hm : m.Nodup) : l.Perm m := by
  refine (List.perm_ext_iff_of_nodup h hm).mpr fun a => ⟨hs a, fun ha => ?_⟩
  rcases Classical.em (a ∈ l) with c | c
  · exact c
  · have h2 : (a :: l).Nodup := List.nodup_cons.mpr ⟨c, h⟩
    have h3 := List.Nodup.length_le_of_subset (l₂ := m) h2 (fun x hx => by
      rcases List.mem_cons.mp hx with e | e
      · rw [e]; exact ha
      · exact hs x e)
    rw [List.length_cons] at h3
    omega
theorem nodup_map_on {α β : Type} {f : α → β} {l : List α} (h : l.Nodup) (hf : ∀ x ∈ l, ∀ y ∈ l, f x = f y → x = y) : (l.map f).Nodup := by
  unfold List.Nodup
  rw [List.pairwise_map]
  exact List.Pairwise.imp_of_mem (fun {a b} ha hb hne e => hne (hf a ha b hb e)) h
theorem reidx {α : Type} {n : Nat} (hn : 0 < n) {f : Int → α} (hf : ∀ z : Int, f (z % n) = f z) {g : Int → Int}
    (inj : ∀ i j : Int, 0 ≤ i → i < n → 0 ≤ j → j < n → g i % n = g j % n → i = j) :
    ((List.range n).map fun i : Nat => f (g i)).Perm ((List.range n).map fun i : Nat => f i) := by
  have hn' : (0 : Int) < n := by omega
  have p : ((List.range n).map fun i : Nat => (g i % n).toNat).Perm (List.range n) := by
    refine perm_of_nodup (nodup_map_on List.nodup_range fun x hx y hy e => ?_) (fun x hx => ?_) (by simp) List.nodup_range
    · rw [List.mem_range] at hx hy
      have a1 := Int.emod_nonneg (g x) (show (n : Int) ≠ 0 by omega)
      have a2 := Int.emod_nonneg (g y) (show (n : Int) ≠ 0 by omega)
      have := inj x y (by omega) (by omega) (by omega) (by omega) (by omega)
      omega
    · obtain ⟨y, _, rfl⟩ := List.mem_map.mp hx
      have a1 := Int.emod_nonneg (g y) (show (n : Int) ≠ 0 by omega)
      have a2 := Int.emod_lt_of_pos (g y) hn'
      rw [List.mem_range]
      omega
  have q := p.map (fun i : Nat => f (i : Int))
  rw [List.map_map] at q
  refine List.Perm.trans (List.Perm.of_eq (List.map_congr_left fun i _ => ?_)) q
  show f (g i) = f (((g i % n).toNat : Nat) : Int)
  have a1 := Int.emod_nonneg (g i) (show (n : Int) ≠ 0 by omega)
  rw [Int.toNat_of_nonneg a1, hf]
theorem emod_inj {n : Nat} {x y : Int} (hx : 0 ≤ x) (hx' : x < n) (hy : 0 ≤ y) (hy' : y < n) (h : x % n = y % n) : x = y := by
  rwa [Int.emod_eq_of_lt hx hx', Int.emod_eq_of_lt hy hy'] at h
theorem add_inj {n : Nat} {k x y : Int} (hx : 0 ≤ x) (hx' : x < n) (hy : 0 ≤ y) (hy' : y < n) (h : (x + k) % n = (y + k) % n) : x = y := by
  refine emod_inj hx hx' hy hy' ?_
  have e : ∀ z : Int, z % n = ((z + k) % n - k) % n := fun z => by
    rw [Int.emod_sub_emod]
    congr 1
    omega
  rw [e x, e y, h]
theorem sub_inj {n : Nat} {k x y : Int} (hx : 0 ≤ x) (hx' : x < n) (hy : 0 ≤ y) (hy' : y < n) (h : (k - x) % n = (k - y) % n) : x = y := by
  refine emod_inj hx hx' hy hy' ?_
  have e : ∀ z : Int, z % n = (k - (k - z) % n) % n := fun z => by
    rw [Int.sub_emod_emod]
    congr 1
    omega
  rw [e x, e y, h]

/-! ### turning -/
def tn (n k : Int) (b : Blk) : Blk := srt (b.map fun p => (p + k) % n)
theorem tn_congr {n k : Int} {b c : Blk} (p : b.Perm c) : tn n k b = tn n k c := srt_congr (p.map _)
theorem tn_tn (n i j : Int) (b : Blk) : tn n i (tn n j b) = tn n (i + j) b := by
  have h : tn n i (tn n j b) = tn n i (b.map fun p => (p + j) % n) := tn_congr (srt_perm _)
  rw [h]
  unfold tn
  rw [List.map_map]
  congr 1
  refine List.map_congr_left fun p _ => ?_
  show ((p + j) % n + i) % n = (p + (i + j)) % n
  rw [Int.emod_add_emod]
  congr 1
  omega
theorem tn_mod (n i : Int) (b : Blk) : tn n (i % n) b = tn n i b := by
  unfold tn
  congr 1
  refine List.map_congr_left fun p _ => ?_
  rw [Int.add_emod_emod]

structure Bas (n : Nat) (b : Blk) : Prop where
  nd : b.Nodup
  bd : ∀ x ∈ b, 0 ≤ x ∧ x < n
structure Can (n : Nat) (b : Blk) : Prop where
  so : b.Pairwise (· < ·)
  bd : ∀ x ∈ b, 0 ≤ x ∧ x < n
theorem Can.bas {n : Nat} {b : Blk} (h : Can n b) : Bas n b := ⟨h.so.imp fun h => Int.ne_of_lt h, h.bd⟩
theorem lt_of_nodup {l : List Int} (h1 : l.Pairwise (· ≤ ·)) (h2 : l.Nodup) : l.Pairwise (· < ·) :=
  (List.Pairwise.and h1 h2).imp fun ⟨a, b⟩ => by omega
theorem can_of {n : Nat} {b c : Blk} (h : Bas n b) (p : c.Perm b) (hs : c.Pairwise (· ≤ ·)) : Can n c :=
  ⟨lt_of_nodup hs (p.nodup_iff.mpr h.nd), fun x hx => h.bd x (p.mem_iff.mp hx)⟩
theorem can_srt {n : Nat} {b : Blk} (h : Bas n b) : Can n (srt b) := can_of h (srt_perm b) (srt_sorted b)
theorem bas_map {n : Nat} (hn : 0 < n) {b : Blk} (h : Bas n b) {g : Int → Int} (inj : ∀ i j : Int, 0 ≤ i → i < n → 0 ≤ j → j < n → g i % n = g j % n → i = j) : Bas n (b.map fun p => g p % n) := by
  refine ⟨nodup_map_on h.nd fun x hx y hy e => inj x y (h.bd x hx).1 (h.bd x hx).2 (h.bd y hy).1 (h.bd y hy).2 e, fun x hx => ?_⟩
  obtain ⟨y, _, rfl⟩ := List.mem_map.mp hx
  exact ⟨Int.emod_nonneg _ (by omega), Int.emod_lt_of_pos _ (by omega)⟩
theorem tn_can {n : Nat} (hn : 0 < n) {b : Blk} (h : Bas n b) (k : Int) : Can n (tn n k b) :=
  can_srt (bas_map hn h (g := fun p => p + k) fun i j h1 h2 h3 h4 e => add_inj h1 h2 h3 h4 e)
theorem tn_zero {n : Nat} {b : Blk} (h : Can n b) : tn n 0 b = b := by
  unfold tn
  have e : (b.map fun p => (p + 0) % (n : Int)) = b := by
    have : (b.map fun p => (p + 0) % (n : Int)) = b.map id := List.map_congr_left fun p hp => by
      rw [Int.add_zero, Int.emod_eq_of_lt (h.bd p hp).1 (h.bd p hp).2]; rfl
    rw [this, List.map_id]
  rw [e]
  exact srt_id (h.so.imp fun h => Int.le_of_lt h)
theorem tn_inj {n : Nat} {b c : Blk} (hb : Can n b) (hc : Can n c) {k : Int} (e : tn n k b = tn n k c) : b = c := by
  have h : ∀ x : Blk, Can n x → tn n (-k) (tn n k x) = x := fun x hx => by
    rw [tn_tn, show -k + k = 0 by omega]
    exact tn_zero hx
  rw [← h b hb, ← h c hc, e]

def orb (n : Nat) (b : Blk) : List Blk := (List.range n).map fun i : Nat => tn n i b
def dev (n : Nat) (bases : List Blk) : List Blk := bases.flatMap (orb n)
theorem mem_orb {n : Nat} (hn : 0 < n) {b c : Blk} : c ∈ orb n b ↔ ∃ k : Int, c = tn n k b := by
  constructor
  · intro h
    obtain ⟨i, _, rfl⟩ := List.mem_map.mp h
    exact ⟨i, rfl⟩
  · rintro ⟨k, rfl⟩
    have a1 := Int.emod_nonneg k (show (n : Int) ≠ 0 by omega)
    have a2 := Int.emod_lt_of_pos k (show (0 : Int) < n by omega)
    refine List.mem_map.mpr ⟨(k % n).toNat, List.mem_range.mpr (by omega), ?_⟩
    show tn n (((k % n).toNat : Nat) : Int) b = tn n k b
    rw [Int.toNat_of_nonneg a1, tn_mod]
theorem orb_perm {n : Nat} (hn : 0 < n) (b : Blk) (k : Int) : (orb n (tn n k b)).Perm (orb n b) := by
  have p := reidx (α := Blk) hn (f := fun z => tn n z b) (fun z => tn_mod n z b) (g := fun i => i + k) (fun i j h1 h2 h3 h4 e => add_inj h1 h2 h3 h4 e)
  refine List.Perm.trans (List.Perm.of_eq (List.map_congr_left fun i _ => ?_)) p
  exact tn_tn n i k b
theorem orb_map {n : Nat} (hn : 0 < n) (b : Blk) (k : Int) : ((orb n b).map (tn n k)).Perm (orb n b) := by
  unfold orb
  rw [List.map_map]
  refine List.Perm.trans (List.Perm.of_eq (List.map_congr_left fun i _ => ?_)) (orb_perm hn b k)
  show tn n k (tn n i b) = tn n i (tn n k b)
  rw [tn_tn, tn_tn, Int.add_comm]
theorem mem_orb_symm {n : Nat} (hn : 0 < n) {b c : Blk} (hb : Can n b) (h : c ∈ orb n b) : b ∈ orb n c := by
  obtain ⟨k, rfl⟩ := (mem_orb hn).mp h
  refine (mem_orb hn).mpr ⟨-k, ?_⟩
  rw [tn_tn, show -k + k = 0 by omega, tn_zero hb]
theorem mem_orb_iff {n : Nat} (hn : 0 < n) {b c : Blk} (h : c ∈ orb n b) (x : Blk) : x ∈ orb n c ↔ x ∈ orb n b := by
  obtain ⟨k, rfl⟩ := (mem_orb hn).mp h
  exact (orb_perm hn b k).mem_iff

/-- what layouts that turn are: all blocks canonical, each as often as it turned -/
structure Trn (n : Nat) (L : List Blk) : Prop where
  can : ∀ b ∈ L, Can n b
  cnt : ∀ b, Can n b → ∀ k : Int, L.count (tn n k b) = L.count b
theorem flatMap_perm {α β : Type} {f g : α → List β} : ∀ {l : List α}, (∀ a ∈ l, (f a).Perm (g a)) → (l.flatMap f).Perm (l.flatMap g)
  | [], _ => List.Perm.refl _
  | a :: l, h => by
    rw [List.flatMap_cons, List.flatMap_cons]
    exact (h a List.mem_cons_self).append (flatMap_perm fun b hb => h b (List.mem_cons_of_mem _ hb))
theorem dev_map {n : Nat} (hn : 0 < n) (bases : List Blk) (k : Int) : ((dev n bases).map (tn n k)).Perm (dev n bases) := by
  unfold dev
  rw [List.map_flatMap]
  exact flatMap_perm fun b _ => orb_map hn b k
theorem count_map_on {α β : Type} [BEq α] [LawfulBEq α] [BEq β] [LawfulBEq β] {f : α → β} {l : List α} {x : α} (h : ∀ a ∈ l, f a = f x → a = x) : (l.map f).count (f x) = l.count x := by
  rw [List.count, List.countP_map, List.count]
  refine List.countP_congr fun a ha => ?_
  simp only [Function.comp, beq_iff_eq]
  exact ⟨fun e => h a ha e, fun e => by rw [e]⟩
theorem dev_can {n : Nat} (hn : 0 < n) {bases : List Blk} (hb : ∀ b ∈ bases, Bas n b) : ∀ b ∈ dev n bases, Can n b := by
  intro b h
  obtain ⟨c, hc, h2⟩ := List.mem_flatMap.mp h
  obtain ⟨k, rfl⟩ := (mem_orb hn).mp h2
  exact tn_can hn (hb c hc) k
theorem dev_trn {n : Nat} (hn : 0 < n) {bases : List Blk} (hb : ∀ b ∈ bases, Bas n b) : Trn n (dev n bases) := by
  refine ⟨dev_can hn hb, fun b cb k => ?_⟩
  rw [← (dev_map hn bases k).count_eq]
  exact count_map_on fun a ha e => tn_inj (dev_can hn hb a ha) cb e
theorem Trn.perm {n : Nat} {L M : List Blk} (h : Trn n L) (p : M.Perm L) : Trn n M :=
  ⟨fun b hb => h.can b (p.mem_iff.mp hb), fun b hb k => by rw [p.count_eq, p.count_eq]; exact h.cnt b hb k⟩

/-! ### the least of an orbit, what is told -/
structure IsLst (n : Nat) (b l : Blk) : Prop where
  mem : l ∈ orb n b
  le : ∀ y ∈ orb n b, l ≤ y
theorem IsLst.uniq {n : Nat} (hn : 0 < n) {b c l m : Blk} (h : IsLst n b l) (h2 : IsLst n c m) (e : ∀ x, x ∈ orb n b ↔ x ∈ orb n c) : l = m :=
  List.le_antisymm (h.le m ((e m).mpr h2.mem)) (h2.le l ((e l).mp h.mem))
def lst (n : Nat) (b : Blk) : Blk := (srtB (orb n b)).headD []
theorem lst_is {n : Nat} (hn : 0 < n) (b : Blk) : IsLst n b (lst n b) := by
  have hl : (srtB (orb n b)).length = n := by rw [(srtB_perm _).length_eq]; simp [orb]
  have hs := srtB_sorted (orb n b)
  unfold lst
  cases e : srtB (orb n b) with
  | nil => rw [e] at hl; simp at hl; omega
  | cons x r =>
    rw [e] at hs
    refine ⟨(srtB_perm _).mem_iff.mp (by rw [e]; exact List.mem_cons_self), fun y hy => ?_⟩
    have hy' := (srtB_perm _).mem_iff.mpr hy
    rw [e] at hy'
    show x ≤ y
    rcases List.mem_cons.mp hy' with q | q
    · rw [q]; exact List.le_refl _
    · exact List.rel_of_pairwise_cons hs q
theorem IsLst.eq {n : Nat} (hn : 0 < n) {b l : Blk} (h : IsLst n b l) : l = lst n b := h.uniq hn (lst_is hn b) fun _ => Iff.rfl
theorem lst_orb {n : Nat} (hn : 0 < n) {b c : Blk} (h : c ∈ orb n b) : lst n c = lst n b := (lst_is hn c).uniq hn (lst_is hn b) (mem_orb_iff hn h)

abbrev Ent := Blk × Int
structure Told (n : Nat) (L : List Blk) (T : List Ent) : Prop where
  so : T.Pairwise (fun e f => e.1 ≤ f.1)
  nd : (T.map (·.1)).Nodup
  mem : ∀ l c, (l, c) ∈ T ↔ ∃ b ∈ L, l = lst n b ∧ c = (L.count b : Int)
theorem nodup_of_map {α β : Type} {f : α → β} {l : List α} (h : (l.map f).Nodup) : l.Nodup := by
  unfold List.Nodup at h
  rw [List.pairwise_map] at h
  exact h.imp fun h e => h (by rw [e])
theorem inj_of_nodup {α β : Type} {f : α → β} : ∀ {l : List α}, (l.map f).Nodup → ∀ x ∈ l, ∀ y ∈ l, f x = f y → x = y
  | [], _, x, hx, _, _, _ => by cases hx
  | a :: l, h, x, hx, y, hy, e => by
    rw [List.map_cons] at h
    rw [List.nodup_cons] at h
    rcases (List.mem_cons).mp hx with rfl | hx'
    · rcases List.mem_cons.mp hy with rfl | hy'
      · rfl
      · exact absurd (List.mem_map.mpr ⟨y, hy', e.symm⟩) h.1
    · rcases List.mem_cons.mp hy with rfl | hy'
      · exact absurd (List.mem_map.mpr ⟨x, hx', e⟩) h.1
      · exact inj_of_nodup h.2 x hx' y hy' e
theorem Told.uniq {n : Nat} {L M : List Blk} {T U : List Ent} (h : Told n L T) (h2 : Told n M U) (p : L.Perm M) : T = U := by
  have hm : ∀ e, e ∈ T ↔ e ∈ U := fun e => by
    obtain ⟨l, c⟩ := e
    rw [h.mem, h2.mem]
    constructor
    · rintro ⟨b, hb, e1, e2⟩; exact ⟨b, p.mem_iff.mp hb, e1, by rw [e2, p.count_eq]⟩
    · rintro ⟨b, hb, e1, e2⟩; exact ⟨b, p.mem_iff.mpr hb, e1, by rw [e2, p.count_eq]⟩
  have pp : T.Perm U := (List.perm_ext_iff_of_nodup (nodup_of_map h.nd) (nodup_of_map h2.nd)).mpr hm
  exact List.Perm.eq_of_pairwise (le := fun e f : Ent => e.1 ≤ f.1) (fun a b ha hb h1 h3 => inj_of_nodup h2.nd a ((hm a).mp ha) b hb (List.le_antisymm h1 h3)) h.so h2.so pp

/-! ### the told bases developed again -/
def so (n : Nat) (l : Blk) : List Blk := srtB (orb n l).eraseDups
theorem nodup_eraseDups {α : Type} [BEq α] [LawfulBEq α] : ∀ (m : Nat) (l : List α), l.length ≤ m → l.eraseDups.Nodup
  | 0, l, h => by
    have : l = [] := List.eq_nil_of_length_eq_zero (by omega)
    subst this
    simp
  | m + 1, [], _ => by simp
  | m + 1, a :: l, h => by
    rw [List.eraseDups_cons, List.nodup_cons]
    refine ⟨fun q => ?_, nodup_eraseDups m _ (Nat.le_trans (List.length_filter_le _ _) (by simp at h; omega))⟩
    rw [List.mem_eraseDups] at q
    have := (List.mem_filter.mp q).2
    simp at this
theorem so_nodup (n : Nat) (l : Blk) : (so n l).Nodup := (srtB_perm _).nodup_iff.mpr (nodup_eraseDups _ _ (Nat.le_refl _))
theorem mem_so {n : Nat} {l x : Blk} : x ∈ so n l ↔ x ∈ orb n l := by
  unfold so
  rw [(srtB_perm _).mem_iff, List.mem_eraseDups]
theorem so_uniq {n : Nat} {l : Blk} {S : List Blk} (h1 : S.Nodup) (h2 : ∀ x, x ∈ S ↔ x ∈ orb n l) (h3 : S.Pairwise (· ≤ ·)) : S = so n l := by
  refine srtB_uniq ((List.perm_ext_iff_of_nodup h1 (nodup_eraseDups _ _ (Nat.le_refl _))).mpr fun x => ?_) h3
  rw [h2, List.mem_eraseDups]
def again (n : Nat) (T : List Ent) : List Blk := T.flatMap fun e => (List.replicate e.2.toNat (so n e.1)).flatten
theorem count_rep {α : Type} [BEq α] [LawfulBEq α] (x : α) (l : List α) : ∀ k : Nat, (List.replicate k l).flatten.count x = k * l.count x
  | 0 => by simp
  | k + 1 => by
    rw [List.replicate_succ, List.flatten_cons, List.count_append, count_rep x l k, Nat.add_mul, Nat.one_mul, Nat.add_comm]
theorem sum_one {T : List Ent} {l : Blk} {c : Nat} : (T.map (·.1)).Nodup → (T.map fun e => if e.1 = l then c else 0).sum = if l ∈ T.map (·.1) then c else 0 := by
  induction T with
  | nil => intro _; simp
  | cons e T ih =>
    intro h
    rw [List.map_cons] at h
    rw [List.nodup_cons] at h
    rw [List.map_cons, List.sum_cons, ih h.2, List.map_cons]
    by_cases he : e.1 = l
    · have : l ∉ T.map (·.1) := by rw [← he]; exact h.1
      simp [he, this]
    · have he' : ¬ l = e.1 := fun q => he q.symm
      rw [if_neg he, Nat.zero_add]
      have q : (l ∈ e.1 :: T.map (·.1)) ↔ l ∈ T.map (·.1) := by rw [List.mem_cons]; exact ⟨fun h => h.resolve_left he', Or.inr⟩
      by_cases hl : l ∈ T.map (·.1)
      · rw [if_pos hl, if_pos (q.mpr hl)]
      · rw [if_neg hl, if_neg fun z => hl (q.mp z)]
theorem sum_zeros {α : Type} : ∀ T : List α, (T.map fun _ => 0).sum = 0
  | [] => rfl
  | _ :: T => by rw [List.map_cons, List.sum_cons, sum_zeros T]
theorem again_perm {n : Nat} (hn : 0 < n) {L : List Blk} {T : List Ent} (hL : Trn n L) (h : Told n L T) : (again n T).Perm L := by
  rw [List.perm_iff_count]
  intro b
  unfold again
  rw [List.count_flatMap]
  by_cases hb : b ∈ L
  · have e : T.map ((fun l => List.count b l) ∘ fun e : Ent => (List.replicate e.2.toNat (so n e.1)).flatten) = T.map fun e => if e.1 = lst n b then L.count b else 0 := by
      refine List.map_congr_left fun e he => ?_
      obtain ⟨l, c⟩ := e
      obtain ⟨b0, hb0, rfl, rfl⟩ := (h.mem l c).mp he
      show List.count b (List.replicate _ (so n (lst n b0))).flatten = if lst n b0 = lst n b then L.count b else 0
      rw [count_rep, (so_nodup n _).count, Int.toNat_natCast]
      have hl := lst_is hn b0
      by_cases hm : b ∈ orb n b0
      · have e1 : lst n b0 = lst n b := (lst_orb hn hm).symm
        have e2 : b ∈ so n (lst n b0) := mem_so.mpr ((mem_orb_iff hn hl.mem b).mpr hm)
        rw [if_pos e2, if_pos e1, Nat.mul_one]
        obtain ⟨k, rfl⟩ := (mem_orb hn).mp hm
        exact (hL.cnt b0 (hL.can b0 hb0) k).symm
      · have e1 : ¬ lst n b0 = lst n b := fun e1 => hm (by
          have q := (lst_is hn b).mem
          rw [← e1] at q
          have q2 : b ∈ orb n (lst n b0) := mem_orb_symm hn (hL.can b hb) q
          exact (mem_orb_iff hn hl.mem b).mp q2)
        have e2 : ¬ b ∈ so n (lst n b0) := fun q => hm ((mem_orb_iff hn hl.mem b).mp (mem_so.mp q))
        rw [if_neg e2, if_neg e1, Nat.mul_zero]
    rw [e, sum_one h.nd, if_pos]
    exact List.mem_map.mpr ⟨(lst n b, (L.count b : Int)), (h.mem _ _).mpr ⟨b, hb, rfl, rfl⟩, rfl⟩
  · rw [List.count_eq_zero.mpr hb]
    have e : T.map ((fun l => List.count b l) ∘ fun e : Ent => (List.replicate e.2.toNat (so n e.1)).flatten) = T.map fun _ => 0 := by
      refine List.map_congr_left fun e he => ?_
      obtain ⟨l, c⟩ := e
      obtain ⟨b0, hb0, rfl, rfl⟩ := (h.mem l c).mp he
      show List.count b (List.replicate _ (so n (lst n b0))).flatten = 0
      rw [count_rep]
      have : List.count b (so n (lst n b0)) = 0 := List.count_eq_zero.mpr fun q => hb (by
        have q2 := (mem_orb_iff hn (lst_is hn b0).mem b).mp (mem_so.mp q)
        obtain ⟨k, rfl⟩ := (mem_orb hn).mp q2
        rw [← List.count_pos_iff, hL.cnt b0 (hL.can b0 hb0) k, List.count_pos_iff]
        exact hb0)
      rw [this, Nat.mul_zero]
    rw [e]
    exact sum_zeros T

/-! ### differences -/
def dl (n : Nat) (b : Blk) : List Int := b.flatMap fun x => b.map fun y => (x - y) % n
def DL (n : Nat) (bases : List Blk) : List Int := bases.flatMap (dl n)
def hist (n : Nat) (D : List Int) : List Int := (List.range n).map fun d : Nat => ((D.count (d : Int) : Nat) : Int)
def diffs (n : Nat) (bases : List Blk) : List Int := (hist n (DL n bases)).drop 1
theorem hist_len (n : Nat) (D : List Int) : (hist n D).length = n := by simp [hist]
theorem hist_get {n : Nat} {D : List Int} {i : Nat} (h : i < n) : (hist n D)[i]? = some ((D.count (i : Int) : Nat) : Int) := by
  unfold hist
  rw [List.getElem?_map, List.getElem?_range h]
  rfl
theorem hist_perm {n : Nat} {D E : List Int} (p : D.Perm E) : hist n D = hist n E := by
  unfold hist
  exact List.map_congr_left fun d _ => by rw [p.count_eq]
theorem hist_nil (n : Nat) : hist n [] = List.replicate n 0 := by
  unfold hist
  rw [List.eq_replicate_iff]
  refine ⟨by simp, fun b hb => ?_⟩
  obtain ⟨i, _, rfl⟩ := List.mem_map.mp hb
  simp
theorem hist_snoc {n : Nat} {D : List Int} {v : Int} (h0 : 0 ≤ v) (h1 : v < n) : hist n (D ++ [v]) = (hist n D).set v.toNat (((D.count v : Nat) : Int) + 1) := by
  apply List.ext_getElem?
  intro i
  rw [List.getElem?_set]
  by_cases hi : i < n
  · rw [hist_get hi]
    by_cases e : v.toNat = i
    · rw [if_pos e, if_pos (by rw [hist_len]; omega)]
      have e2 : v = (i : Int) := by omega
      rw [← e2, List.count_append, List.count_singleton_self]
      simp
    · rw [if_neg e, hist_get hi, List.count_append]
      have e2 : ¬ v = (i : Int) := by omega
      have : List.count (i : Int) [v] = 0 := List.count_eq_zero.mpr (by simp; omega)
      rw [this, Nat.add_zero]
  · have l1 : (hist n (D ++ [v])).length ≤ i := by rw [hist_len]; omega
    have l2 : (hist n D).length ≤ i := by rw [hist_len]; omega
    rw [List.getElem?_eq_none l1, List.getElem?_eq_none l2, if_neg (by omega)]
theorem dl_bd {n : Nat} (hn : 0 < n) {b : Blk} : ∀ v ∈ dl n b, 0 ≤ v ∧ v < n := by
  intro v hv
  obtain ⟨x, _, h⟩ := List.mem_flatMap.mp hv
  obtain ⟨y, _, rfl⟩ := List.mem_map.mp h
  exact ⟨Int.emod_nonneg _ (by omega), Int.emod_lt_of_pos _ (by omega)⟩
theorem DL_bd {n : Nat} (hn : 0 < n) {bases : List Blk} : ∀ v ∈ DL n bases, 0 ≤ v ∧ v < n := by
  intro v hv
  obtain ⟨b, _, h⟩ := List.mem_flatMap.mp hv
  exact dl_bd hn v h
theorem diffs_len (n : Nat) (bases : List Blk) : (diffs n bases).length = n - 1 := by
  unfold diffs
  rw [List.length_drop, hist_len]
theorem diffs_get {n : Nat} {bases : List Blk} {d : Nat} (h : d + 1 < n) : (diffs n bases)[d]? = some (((DL n bases).count ((d + 1 : Nat) : Int) : Nat) : Int) := by
  unfold diffs
  rw [List.getElem?_drop, Nat.add_comm 1 d, hist_get h]

theorem sum_add (f g : Nat → Int) : ∀ l : List Nat, (l.map fun i => f i + g i).sum = (l.map f).sum + (l.map g).sum
  | [] => by simp
  | a :: l => by
    rw [List.map_cons, List.sum_cons, sum_add f g l, List.map_cons, List.map_cons, List.sum_cons, List.sum_cons]
    omega
theorem sum_ind {v : Int} : ∀ {l : List Nat}, l.Nodup → (l.map fun d : Nat => if v = (d : Int) then (1 : Int) else 0).sum = if v.toNat ∈ l ∧ 0 ≤ v then 1 else 0
  | [], _ => by simp
  | a :: l, h => by
    rw [List.nodup_cons] at h
    rw [List.map_cons, List.sum_cons, sum_ind h.2]
    by_cases e : v = (a : Int)
    · have e2 : v.toNat = a := by omega
      have : v.toNat ∉ l := by rw [e2]; exact h.1
      rw [if_pos e, if_neg (fun q => this q.1), if_pos ⟨by rw [e2]; exact List.mem_cons_self, by omega⟩]
      rfl
    · rw [if_neg e, Int.zero_add]
      by_cases q : v.toNat ∈ l ∧ 0 ≤ v
      · rw [if_pos q, if_pos ⟨List.mem_cons_of_mem _ q.1, q.2⟩]
      · rw [if_neg q, if_neg]
        rintro ⟨q1, q2⟩
        rcases List.mem_cons.mp q1 with z | z
        · omega
        · exact q ⟨z, q2⟩
theorem sum_rep0 : ∀ n : Nat, (List.replicate n (0 : Int)).sum = (([] : List Int).length : Int)
  | 0 => rfl
  | n + 1 => by rw [List.replicate_succ, List.sum_cons, sum_rep0 n]; rfl
theorem hist_sum {n : Nat} : ∀ {D : List Int}, (∀ v ∈ D, 0 ≤ v ∧ v < n) → (hist n D).sum = (D.length : Int)
  | [], _ => by
    rw [hist_nil]
    exact sum_rep0 n
  | v :: D, h => by
    have hv := h v List.mem_cons_self
    have ih := hist_sum (D := D) fun u hu => h u (List.mem_cons_of_mem _ hu)
    have e : hist n (v :: D) = (List.range n).map fun d : Nat => ((D.count (d : Int) : Nat) : Int) + (if v = (d : Int) then (1 : Int) else 0) := by
      unfold hist
      refine List.map_congr_left fun d _ => ?_
      rw [List.count_cons]
      by_cases q : v = (d : Int)
      · simp [q]
      · simp [q]
    rw [e, sum_add, sum_ind List.nodup_range, if_pos ⟨List.mem_range.mpr (by omega), hv.1⟩, List.length_cons]
    have : ((List.range n).map fun d : Nat => ((D.count (d : Int) : Nat) : Int)).sum = (hist n D).sum := rfl
    rw [this, ih]
    omega
theorem emod_zero_iff {n : Nat} {x y : Int} (hx : 0 ≤ x ∧ x < n) (hy : 0 ≤ y ∧ y < n) : (x - y) % n = 0 ↔ x = y := by
  constructor
  · intro h
    have : x % n = y % n := Int.emod_eq_emod_iff_emod_sub_eq_zero.mpr h
    exact emod_inj hx.1 hx.2 hy.1 hy.2 this
  · intro h
    subst h
    simp
theorem dl_len (n : Nat) (b : Blk) : (dl n b).length = b.length * b.length := by
  unfold dl
  have : ∀ c : Blk, (c.flatMap fun x => b.map fun y => (x - y) % (n : Int)).length = c.length * b.length := by
    intro c
    induction c with
    | nil => simp
    | cons x c ih => rw [List.flatMap_cons, List.length_append, ih, List.length_map, List.length_cons, Nat.add_mul, Nat.one_mul, Nat.add_comm]
  exact this b
theorem countP_eq_one {l : List Int} (hn : l.Nodup) {x : Int} (hx : x ∈ l) {p : Int → Bool} (hp : ∀ y ∈ l, p y = true ↔ y = x) : l.countP p = 1 := by
  have : l.countP p = l.count x := List.countP_congr fun y hy => by rw [hp y hy]; simp
  rw [this, hn.count, if_pos hx]
/-- how many differences of a base are d, from the number itself -/
theorem dl_count {n : Nat} (hn : 0 < n) {b : Blk} (h : Bas n b) {d : Int} (h0 : 0 ≤ d) (h1 : d < n) : (dl n b).count d = b.countP fun x => decide ((x - d) % n ∈ b) := by
  unfold dl
  rw [List.count_flatMap, List.countP_eq_length_filter]
  have key : ∀ c : Blk, (∀ x ∈ c, x ∈ b) → (c.map ((fun l => List.count d l) ∘ fun x => b.map fun y => (x - y) % (n : Int))).sum = (c.filter fun x => decide ((x - d) % n ∈ b)).length := by
    intro c
    induction c with
    | nil => intro _; rfl
    | cons x c ih =>
      intro hc
      have hx := hc x List.mem_cons_self
      have bx := h.bd x hx
      rw [List.map_cons, List.sum_cons, ih fun y hy => hc y (List.mem_cons_of_mem _ hy)]
      have e : ∀ y ∈ b, (x - y) % (n : Int) = d ↔ y = (x - d) % n := fun y hy => by
        have by_ := h.bd y hy
        constructor
        · intro q
          rw [← q, Int.sub_emod_emod, show x - (x - y) = y by omega, Int.emod_eq_of_lt by_.1 by_.2]
        · intro q
          rw [q, Int.sub_emod_emod, show x - (x - d) = d by omega, Int.emod_eq_of_lt h0 h1]
      have e2 : List.count d (b.map fun y => (x - y) % (n : Int)) = if (x - d) % n ∈ b then 1 else 0 := by
        rw [List.count, List.countP_map]
        by_cases q : (x - d) % (n : Int) ∈ b
        · rw [if_pos q]
          refine countP_eq_one h.nd q fun y hy => ?_
          simp only [Function.comp, beq_iff_eq]
          exact e y hy
        · rw [if_neg q, List.countP_eq_zero]
          intro y hy
          simp only [Function.comp, beq_iff_eq]
          intro z
          exact q (by rw [← (e y hy).mp z]; exact hy)
      show List.count d (b.map fun y => (x - y) % (n : Int)) + _ = _
      rw [e2]
      by_cases q : (x - d) % (n : Int) ∈ b
      · rw [if_pos q, List.filter_cons_of_pos (by simpa using q), List.length_cons, Nat.add_comm]
      · rw [if_neg q, List.filter_cons_of_neg (by simpa using q), Nat.zero_add]
  exact key b fun _ h => h
theorem dl_zero {n : Nat} (hn : 0 < n) {b : Blk} (h : Bas n b) : (dl n b).count 0 = b.length := by
  rw [dl_count hn h (Int.le_refl 0) (by omega)]
  rw [List.countP_eq_length]
  intro x hx
  have bx := h.bd x hx
  rw [Int.sub_zero, Int.emod_eq_of_lt bx.1 bx.2]
  simpa using hx
theorem diffs_sum {n : Nat} (hn : 0 < n) {bases : List Blk} (hb : ∀ b ∈ bases, Bas n b) : (diffs n bases).sum = (bases.map fun b => (b.length : Int) * ((b.length : Int) - 1)).sum := by
  have e1 : (hist n (DL n bases)).sum = ((DL n bases).length : Int) := hist_sum (DL_bd hn)
  have e2 : (hist n (DL n bases)).sum = (((DL n bases).count 0 : Nat) : Int) + (diffs n bases).sum := by
    have hl := hist_len n (DL n bases)
    have h0 : (hist n (DL n bases))[0]? = some _ := hist_get (D := DL n bases) hn
    unfold diffs
    cases q : hist n (DL n bases) with
    | nil => rw [q] at hl; simp at hl; omega
    | cons x r =>
      rw [q] at h0
      have : x = (((DL n bases).count 0 : Nat) : Int) := by simpa using h0
      rw [List.sum_cons, this]
      rfl
  have e3 : ∀ l : List Blk, (∀ b ∈ l, Bas n b) → ((l.flatMap (dl n)).length : Int) = (((l.flatMap (dl n)).count 0 : Nat) : Int) + (l.map fun b => (b.length : Int) * ((b.length : Int) - 1)).sum := by
    intro l
    induction l with
    | nil => intro _; rfl
    | cons b l ih =>
      intro h
      have ih := ih fun c hc => h c (List.mem_cons_of_mem _ hc)
      rw [List.flatMap_cons, List.length_append, List.count_append, List.map_cons, List.sum_cons, dl_len, dl_zero hn (h b List.mem_cons_self)]
      have q : (b.length : Int) * ((b.length : Int) - 1) = (b.length : Int) * (b.length : Int) - (b.length : Int) := by rw [Int.mul_sub, Int.mul_one]
      rw [q]
      push_cast
      omega
  have := e3 bases hb
  have e4 : (DL n bases) = bases.flatMap (dl n) := rfl
  rw [e4] at e1 e2
  omega

/-! ### pairs of points in blocks -/
theorem mem_tn {n : Nat} (hn : 0 < n) {b : Blk} (h : Bas n b) {a i : Int} (h0 : 0 ≤ a) (h1 : a < n) : a ∈ tn n i b ↔ (a - i) % n ∈ b := by
  unfold tn
  rw [mem_srt, List.mem_map]
  constructor
  · rintro ⟨x, hx, e⟩
    have bx := h.bd x hx
    rw [← e, Int.emod_sub_emod, show x + i - i = x by omega, Int.emod_eq_of_lt bx.1 bx.2]
    exact hx
  · intro q
    refine ⟨_, q, ?_⟩
    rw [Int.emod_add_emod, show a - i + i = a by omega, Int.emod_eq_of_lt h0 h1]
theorem ints_perm {n : Nat} {b : Blk} (h : Bas n b) : (((List.range n).map fun i : Nat => (i : Int)).filter fun x => decide (x ∈ b)).Perm b := by
  refine (List.perm_ext_iff_of_nodup ?_ h.nd).mpr fun x => ?_
  · exact List.Pairwise.filter _ (nodup_map_on List.nodup_range fun x _ y _ e => by omega)
  · rw [List.mem_filter, List.mem_map, decide_eq_true_eq]
    constructor
    · exact fun q => q.2
    · intro q
      have bx := h.bd x q
      exact ⟨⟨x.toNat, List.mem_range.mpr (by omega), by omega⟩, q⟩
/-- both a and b lie in as many blocks of a base's as there are numbers x of the base for which another one lies off by d -/
theorem orb_pairs {n : Nat} (hn : 0 < n) {b : Blk} (h : Bas n b) {a c : Int} (ha : 0 ≤ a) (ha' : a < n) (hc : 0 ≤ c) (hc' : c < n) :
    (orb n b).countP (fun blk => decide (a ∈ blk) && decide (c ∈ blk)) = b.countP fun x => decide ((x - (c - a)) % n ∈ b) := by
  unfold orb
  rw [List.countP_map]
  have hf : ∀ z : Int, (fun z : Int => decide (z % (n : Int) ∈ b) && decide ((z - (c - a)) % (n : Int) ∈ b)) (z % n) = (fun z : Int => decide (z % (n : Int) ∈ b) && decide ((z - (c - a)) % (n : Int) ∈ b)) z := fun z => by
    show (decide (z % (n : Int) % (n : Int) ∈ b) && decide ((z % (n : Int) - (c - a)) % (n : Int) ∈ b)) = _
    rw [Int.emod_emod, Int.emod_sub_emod]
  have p := (reidx (α := Bool) hn (f := fun z : Int => decide (z % (n : Int) ∈ b) && decide ((z - (c - a)) % (n : Int) ∈ b)) hf (g := fun i => c - i) (fun i j h1 h2 h3 h4 e => sub_inj h1 h2 h3 h4 e)).countP_eq id
  have e1 : List.countP ((fun blk => decide (a ∈ blk) && decide (c ∈ blk)) ∘ fun i : Nat => tn n i b) (List.range n) = List.countP id ((List.range n).map fun i : Nat => decide ((c - (i : Int)) % (n : Int) ∈ b) && decide ((c - (i : Int) - (c - a)) % (n : Int) ∈ b)) := by
    rw [List.countP_map]
    refine List.countP_congr fun i _ => ?_
    simp only [Function.comp, id]
    have h1 : decide (a ∈ tn n i b) = decide ((c - (i : Int) - (c - a)) % (n : Int) ∈ b) := by
      rw [show c - (i : Int) - (c - a) = a - i by omega]
      exact decide_eq_decide.mpr (mem_tn hn h ha ha')
    have h2 : decide (c ∈ tn n i b) = decide ((c - (i : Int)) % (n : Int) ∈ b) := decide_eq_decide.mpr (mem_tn hn h hc hc')
    rw [h1, h2, Bool.and_comm]
  rw [e1, p, List.countP_map]
  have e2 : List.countP (id ∘ fun i : Nat => (fun z : Int => decide (z % (n : Int) ∈ b) && decide ((z - (c - a)) % (n : Int) ∈ b)) i) (List.range n) = List.countP (fun x : Int => decide ((x - (c - a)) % (n : Int) ∈ b) && decide (x ∈ b)) ((List.range n).map fun i : Nat => (i : Int)) := by
    rw [List.countP_map]
    refine List.countP_congr fun i hi => ?_
    have hi := List.mem_range.mp hi
    simp only [Function.comp, id]
    rw [Int.emod_eq_of_lt (show (0 : Int) ≤ i by omega) (show (i : Int) < n by omega), Bool.and_comm]
  rw [e2, ← List.countP_filter]
  exact (ints_perm h).countP_eq _
theorem dev_pairs {n : Nat} (hn : 0 < n) {a c : Int} (ha : 0 ≤ a) (hac : a < c) (hc' : c < n) : ∀ {bases : List Blk}, (∀ b ∈ bases, Bas n b) →
    (dev n bases).countP (fun blk => decide (a ∈ blk) && decide (c ∈ blk)) = (DL n bases).count (c - a) ∧ (dev n bases).countP (fun blk => decide (a ∈ blk) && decide (c ∈ blk)) = (DL n bases).count ((n : Int) - c + a)
  | [], _ => ⟨rfl, rfl⟩
  | b :: bases, h => by
    obtain ⟨i1, i2⟩ := dev_pairs hn ha hac hc' (bases := bases) fun x hx => h x (List.mem_cons_of_mem _ hx)
    have hb := h b List.mem_cons_self
    unfold dev DL at *
    rw [List.flatMap_cons, List.flatMap_cons, List.countP_append, List.count_append, List.count_append]
    have e1 := orb_pairs hn hb (a := a) (c := c) ha (by omega) (by omega) hc'
    have e2 := orb_pairs hn hb (a := c) (c := a) (by omega) hc' ha (by omega)
    have e3 : (orb n b).countP (fun blk => decide (c ∈ blk) && decide (a ∈ blk)) = (orb n b).countP (fun blk => decide (a ∈ blk) && decide (c ∈ blk)) := List.countP_congr fun x _ => by rw [Bool.and_comm]
    rw [dl_count hn hb (d := c - a) (by omega) (by omega), dl_count hn hb (d := (n : Int) - c + a) (by omega) (by omega)]
    refine ⟨by rw [e1, i1], ?_⟩
    rw [i2, ← e3, e2]
    congr 1
    refine List.countP_congr fun x _ => ?_
    have : (x - (a - c)) % (n : Int) = (x - ((n : Int) - c + a)) % n := by
      rw [show x - (a - c) = (x - ((n : Int) - c + a)) + n by omega, Int.add_emod_right]
    rw [this]

/-! ### other bases: turned, in another order -/
theorem dl_perm {n : Nat} {b c : Blk} (p : b.Perm c) : (dl n b).Perm (dl n c) := by
  unfold dl
  exact (List.Perm.flatMap_right _ p).trans (flatMap_perm fun x _ => p.map _)
theorem dl_moved (n : Nat) (b : Blk) (k : Int) : dl n (b.map fun p => (1 * p + k) % n) = dl n b := by
  unfold dl
  rw [List.flatMap_map]
  have : ∀ x y : Int, ((1 * x + k) % (n : Int) - (1 * y + k) % n) % n = (x - y) % n := fun x y => by
    rw [Int.emod_sub_emod, Int.sub_emod_emod]
    congr 1
    omega
  congr 1
  funext x
  rw [List.map_map]
  refine List.map_congr_left fun y _ => ?_
  exact this x y
theorem orb_moved {n : Nat} (hn : 0 < n) (b : Blk) (k : Int) : (orb n ((b.map fun p => (1 * p + k) % n).reverse)).Perm (orb n b) := by
  have e : orb n ((b.map fun p => (1 * p + k) % (n : Int)).reverse) = orb n (tn n k b) := by
    unfold orb
    refine List.map_congr_left fun i _ => tn_congr ?_
    refine (List.reverse_perm _).trans ?_
    unfold tn
    refine List.Perm.trans (List.Perm.of_eq (List.map_congr_left fun p _ => ?_)) (srt_perm _).symm
    rw [Int.one_mul]
  rw [e]
  exact orb_perm hn b k
/-- bases M are the bases L, one by one, turned and in any order -/
inductive Mvd (n : Nat) : List Blk → List Blk → Prop
  | nil : Mvd n [] []
  | cons {b : Blk} {L M : List Blk} (k : Int) (h : Mvd n L M) : Mvd n (b :: L) ((b.map fun p => (1 * p + k) % (n : Int)).reverse :: M)
theorem Mvd.dl {n : Nat} {L M : List Blk} (h : Mvd n L M) : (DL n M).Perm (DL n L) := by
  induction h with
  | nil => exact List.Perm.refl _
  | @cons b L M k h ih =>
    unfold DL at *
    rw [List.flatMap_cons, List.flatMap_cons]
    refine List.Perm.append ?_ ih
    have := dl_perm (n := n) (List.reverse_perm (b.map fun p => (1 * p + k) % (n : Int)))
    rw [dl_moved] at this
    exact this
theorem Mvd.dev {n : Nat} (hn : 0 < n) {L M : List Blk} (h : Mvd n L M) : (dev n M).Perm (dev n L) := by
  induction h with
  | nil => exact List.Perm.refl _
  | @cons b L M k h ih =>
    unfold Ev.dev at *
    rw [List.flatMap_cons, List.flatMap_cons]
    exact (orb_moved hn b k).append ih
theorem Mvd.bas {n : Nat} (hn : 0 < n) {L M : List Blk} (h : Mvd n L M) (hb : ∀ b ∈ L, Bas n b) : ∀ b ∈ M, Bas n b := by
  induction h with
  | nil => intro b hb; cases hb
  | @cons b L M k h ih =>
    intro c hc
    rcases List.mem_cons.mp hc with e | e
    · have := bas_map hn (hb b List.mem_cons_self) (g := fun p => 1 * p + k) fun i j h1 h2 h3 h4 e => add_inj (k := k) h1 h2 h3 h4 (by simpa using e)
      rw [e]
      exact ⟨(List.reverse_perm _).nodup_iff.mpr this.nd, fun x hx => this.bd x (List.mem_reverse.mp hx)⟩
    · exact ih (fun x hx => hb x (List.mem_cons_of_mem _ hx)) c e

/-! ### products -/
theorem mul_inj {n : Nat} {m : Int} (hm : Nat.gcd m.toNat n = 1) (h0 : 0 ≤ m) {x y : Int} (hx : 0 ≤ x) (hx' : x < n) (hy : 0 ≤ y) (hy' : y < n) (h : (m * x) % n = (m * y) % n) : x = y := by
  have h1 : (n : Int) ∣ m * (x - y) := by
    rw [Int.mul_sub]
    exact Int.dvd_of_emod_eq_zero (Int.emod_eq_emod_iff_emod_sub_eq_zero.mp h)
  have h2 : n ∣ m.natAbs * (x - y).natAbs := by
    rw [← Int.natAbs_mul]
    exact Int.ofNat_dvd_left.mp h1
  have h3 : Nat.Coprime n m.natAbs := by
    have : m.natAbs = m.toNat := by omega
    rw [this]
    show Nat.gcd n m.toNat = 1
    rw [Nat.gcd_comm]
    exact hm
  have h4 : n ∣ (x - y).natAbs := h3.dvd_of_dvd_mul_left h2
  have h5 : (x - y).natAbs = 0 := Nat.eq_zero_of_dvd_of_lt h4 (by omega)
  omega
def prd (n : Nat) (m : Int) (b : Blk) : Blk := b.map fun p => (m * p + 0) % n
theorem dl_prd (n : Nat) (m : Int) (b : Blk) : dl n (prd n m b) = (dl n b).map fun d => (m * d) % n := by
  unfold dl prd
  rw [List.flatMap_map, List.map_flatMap]
  congr 1
  funext x
  repeat rw [List.map_map]
  refine List.map_congr_left fun y _ => ?_
  show ((m * x + 0) % (n : Int) - (m * y + 0) % n) % n = (m * ((x - y) % n)) % n
  rw [Int.emod_sub_emod, Int.sub_emod_emod, Int.mul_emod m ((x - y) % n), Int.emod_emod, ← Int.mul_emod, Int.mul_sub]
  congr 1
  omega
theorem DL_prd (n : Nat) (m : Int) (bases : List Blk) : DL n (bases.map (prd n m)) = (DL n bases).map fun d => (m * d) % n := by
  unfold DL
  rw [List.flatMap_map, List.map_flatMap]
  congr 1
  funext b
  exact dl_prd n m b
theorem prd_bas {n : Nat} (hn : 0 < n) {m : Int} (hm : Nat.gcd m.toNat n = 1) (h0 : 0 ≤ m) {b : Blk} (h : Bas n b) : Bas n (prd n m b) :=
  bas_map hn h (g := fun p => m * p + 0) fun i j h1 h2 h3 h4 e => mul_inj hm h0 h1 h2 h3 h4 (by simpa using e)
theorem DL_prd_count {n : Nat} (hn : 0 < n) {m : Int} (hm : Nat.gcd m.toNat n = 1) (h0 : 0 ≤ m) (bases : List Blk) {d : Int} (hd : 0 ≤ d) (hd' : d < n) : (DL n (bases.map (prd n m))).count ((m * d) % n) = (DL n bases).count d := by
  rw [DL_prd]
  exact count_map_on (f := fun d => (m * d) % (n : Int)) fun a ha e => mul_inj hm h0 (DL_bd hn a ha).1 (DL_bd hn a ha).2 hd hd' e
theorem mul_pos_mod {n : Nat} (hn : 0 < n) {m : Int} (hm : Nat.gcd m.toNat n = 1) (h0 : 0 ≤ m) {d : Int} (hd : 0 < d) (hd' : d < n) : 0 < (m * d) % n ∧ (m * d) % n < n := by
  have a1 := Int.emod_nonneg (m * d) (show (n : Int) ≠ 0 by omega)
  have a2 := Int.emod_lt_of_pos (m * d) (show (0 : Int) < n by omega)
  refine ⟨?_, a2⟩
  rcases Int.lt_or_eq_of_le a1 with q | q
  · exact q
  · have := mul_inj hm h0 (x := d) (y := 0) (by omega) hd' (by omega) (by omega) (by rw [← q]; simp)
    omega
/-- the blocks renamed by the row of products -/
def ren (n : Nat) (m : Int) (L : List Blk) : List Blk := L.map fun b => srt (b.map fun p => (m * p) % n)
theorem ren_dev {n : Nat} (hn : 0 < n) {m : Int} (hm : Nat.gcd m.toNat n = 1) (h0 : 0 ≤ m) (bases : List Blk) : (ren n m (dev n bases)).Perm (dev n (bases.map (prd n m))) := by
  unfold ren dev
  rw [List.map_flatMap, List.flatMap_map]
  refine flatMap_perm fun b _ => ?_
  unfold orb
  rw [List.map_map]
  have hf : ∀ z : Int, (fun z : Int => srt (b.map fun p => (m * p + z) % (n : Int))) (z % n) = (fun z : Int => srt (b.map fun p => (m * p + z) % (n : Int))) z := fun z => by
    show srt (b.map fun p => (m * p + z % n) % (n : Int)) = srt (b.map fun p => (m * p + z) % (n : Int))
    congr 1
    refine List.map_congr_left fun p _ => ?_
    rw [Int.add_emod_emod]
  have p := reidx (α := Blk) hn (f := fun z : Int => srt (b.map fun p => (m * p + z) % (n : Int))) hf (g := fun i => m * i) (fun i j h1 h2 h3 h4 e => mul_inj hm h0 h1 h2 h3 h4 e)
  refine List.Perm.trans (List.Perm.of_eq (List.map_congr_left fun i _ => ?_)) (p.trans (List.Perm.of_eq (List.map_congr_left fun i _ => ?_)))
  · show srt ((tn n i b).map fun p => (m * p) % (n : Int)) = srt (b.map fun p => (m * p + m * i) % (n : Int))
    unfold tn
    have q : ((srt (b.map fun p => (p + (i : Int)) % (n : Int))).map fun p => (m * p) % (n : Int)).Perm (b.map fun p => (m * p + m * i) % (n : Int)) := by
      refine ((srt_perm _).map _).trans (List.Perm.of_eq ?_)
      rw [List.map_map]
      refine List.map_congr_left fun p _ => ?_
      show (m * ((p + i) % (n : Int))) % n = (m * p + m * i) % n
      rw [Int.mul_emod m ((p + i) % n), Int.emod_emod, ← Int.mul_emod, Int.mul_add]
    exact srt_congr q
  · show srt (b.map fun p => (m * p + (i : Int)) % (n : Int)) = tn n i (prd n m b)
    unfold tn prd
    rw [List.map_map]
    congr 1
    refine List.map_congr_left fun p _ => ?_
    show (m * p + (i : Int)) % (n : Int) = ((m * p + 0) % n + i) % n
    rw [Int.emod_add_emod, Int.add_zero]
end Ev
-- part EvMath2
namespace Ev
/-! ### tables: blocks to ints -/
def getE (ks : List Ent) (b : Blk) : Option Int := (ks.find? fun e => decide (e.1 = b)).map (·.2)
def putE (ks : List Ent) (b : Blk) (c : Int) : List Ent := if (ks.any fun e => decide (e.1 = b)) = true then ks.map (fun e => if e.1 = b then (e.1, c) else e) else ks ++ [(b, c)]
theorem any_iff {ks : List Ent} {b : Blk} : (ks.any fun e => decide (e.1 = b)) = true ↔ b ∈ ks.map (·.1) := by
  rw [List.any_eq_true, List.mem_map]
  constructor
  · rintro ⟨e, h1, h2⟩; exact ⟨e, h1, by simpa using h2⟩
  · rintro ⟨e, h1, h2⟩; exact ⟨e, h1, by simpa using h2⟩
theorem putE_keys {ks : List Ent} {b : Blk} {c : Int} : (putE ks b c).map (·.1) = if b ∈ ks.map (·.1) then ks.map (·.1) else ks.map (·.1) ++ [b] := by
  unfold putE
  by_cases h : b ∈ ks.map (·.1)
  · rw [if_pos (any_iff.mpr h), if_pos h, List.map_map]
    refine List.map_congr_left fun e _ => ?_
    show (if e.1 = b then (e.1, c) else e).1 = e.1
    split <;> rfl
  · rw [if_neg (fun z => h (any_iff.mp z)), if_neg h, List.map_append]
    rfl
theorem putE_nodup {ks : List Ent} {b : Blk} {c : Int} (h : (ks.map (·.1)).Nodup) : ((putE ks b c).map (·.1)).Nodup := by
  rw [putE_keys]
  split
  · exact h
  · rename_i hb
    refine List.nodup_append.mpr ⟨h, by simp, fun x hx y hy e => ?_⟩
    rw [List.mem_singleton] at hy
    subst hy
    subst e
    exact hb hx
theorem putE_mem {ks : List Ent} {b l : Blk} {c c' : Int} : (l, c') ∈ putE ks b c ↔ (l = b ∧ c' = c) ∨ (l ≠ b ∧ (l, c') ∈ ks) := by
  unfold putE
  by_cases h : b ∈ ks.map (·.1)
  · rw [if_pos (any_iff.mpr h), List.mem_map]
    constructor
    · rintro ⟨e, h1, h2⟩
      by_cases q : e.1 = b
      · rw [if_pos q] at h2
        cases h2
        exact .inl ⟨q, rfl⟩
      · rw [if_neg q] at h2
        subst h2
        exact .inr ⟨q, h1⟩
    · rintro (⟨rfl, rfl⟩ | ⟨h1, h2⟩)
      · obtain ⟨e, h3, h4⟩ := List.mem_map.mp h
        exact ⟨e, h3, by rw [if_pos h4, h4]⟩
      · exact ⟨(l, c'), h2, by rw [if_neg h1]⟩
  · rw [if_neg (fun z => h (any_iff.mp z)), List.mem_append, List.mem_singleton]
    constructor
    · rintro (h1 | h1)
      · refine .inr ⟨fun e => h (List.mem_map.mpr ⟨_, h1, e⟩), h1⟩
      · cases h1
        exact .inl ⟨rfl, rfl⟩
    · rintro (⟨rfl, rfl⟩ | ⟨_, h2⟩)
      · exact .inr rfl
      · exact .inl h2
theorem putE_len {ks : List Ent} {b : Blk} {c : Int} : (putE ks b c).length ≤ ks.length + 1 := by
  unfold putE
  split
  · rw [List.length_map]; omega
  · rw [List.length_append]; exact Nat.le_refl _
theorem getE_some {ks : List Ent} {b : Blk} {c : Int} (h : (ks.map (·.1)).Nodup) (hm : (b, c) ∈ ks) : getE ks b = some c := by
  unfold getE
  cases e : ks.find? fun e => decide (e.1 = b) with
  | none =>
    have := List.find?_eq_none.mp e (b, c) hm
    simp at this
  | some x =>
    have h1 := List.find?_some e
    have h2 := List.mem_of_find?_eq_some e
    have h3 : x.1 = b := by simpa using h1
    have := inj_of_nodup h x h2 (b, c) hm h3
    rw [this]
    rfl
theorem getE_none {ks : List Ent} {b : Blk} (h : b ∉ ks.map (·.1)) : getE ks b = none := by
  unfold getE
  rw [List.find?_eq_none.mpr]
  · rfl
  · intro x hx q
    exact h (List.mem_map.mpr ⟨x, hx, by simpa using q⟩)
/-- the counts of blocks -/
structure Cnt (L : List Blk) (ks : List Ent) : Prop where
  nd : (ks.map (·.1)).Nodup
  mem : ∀ b c, (b, c) ∈ ks ↔ b ∈ L ∧ c = (L.count b : Int)
theorem Cnt.nil : Cnt [] [] := ⟨by simp, fun b c => by simp⟩
theorem Cnt.keys {L : List Blk} {ks : List Ent} (h : Cnt L ks) (b : Blk) : b ∈ ks.map (·.1) ↔ b ∈ L := by
  rw [List.mem_map]
  constructor
  · rintro ⟨e, h1, rfl⟩
    exact ((h.mem e.1 e.2).mp h1).1
  · intro hb
    exact ⟨(b, _), (h.mem b _).mpr ⟨hb, rfl⟩, rfl⟩
theorem Cnt.get {L : List Blk} {ks : List Ent} (h : Cnt L ks) (b : Blk) : (getE ks b).getD 0 = (L.count b : Int) := by
  by_cases hb : b ∈ L
  · rw [getE_some h.nd ((h.mem b _).mpr ⟨hb, rfl⟩)]
    rfl
  · rw [getE_none (fun z => hb ((h.keys b).mp z)), List.count_eq_zero.mpr hb]
    rfl
theorem Cnt.snoc {L : List Blk} {ks : List Ent} (h : Cnt L ks) (b : Blk) : Cnt (L ++ [b]) (putE ks b ((getE ks b).getD 0 + 1)) := by
  refine ⟨putE_nodup h.nd, fun l c => ?_⟩
  rw [putE_mem, h.get, List.mem_append, List.mem_singleton, List.count_append]
  by_cases e : l = b
  · subst e
    rw [List.count_singleton_self]
    constructor
    · rintro (⟨_, rfl⟩ | ⟨h1, _⟩)
      · exact ⟨.inr rfl, by push_cast; rfl⟩
      · exact absurd rfl h1
    · rintro ⟨_, rfl⟩
      exact .inl ⟨rfl, by push_cast; rfl⟩
  · have e2 : List.count l [b] = 0 := List.count_eq_zero.mpr (by simpa using e)
    rw [e2, h.mem, Nat.add_zero]
    constructor
    · rintro (⟨h1, _⟩ | ⟨_, h1, h2⟩)
      · exact absurd h1 e
      · exact ⟨.inl h1, h2⟩
    · rintro ⟨h1, h2⟩
      exact .inr ⟨e, h1.resolve_right e, h2⟩
theorem Cnt.len {L : List Blk} {ks : List Ent} (h : Cnt L ks) : ks.length ≤ L.length := by
  have : (ks.map (·.1)).length ≤ L.length := List.Nodup.length_le_of_subset h.nd fun x hx => (h.keys x).mp hx
  rwa [List.length_map] at this
/-- the table of the least ones, so far -/
structure Knw (n : Nat) (L Pre : List Blk) (kn : List Ent) : Prop where
  nd : (kn.map (·.1)).Nodup
  mem : ∀ l c, (l, c) ∈ kn ↔ ∃ b ∈ Pre, l = lst n b ∧ c = (L.count b : Int)
theorem Knw.nil {n : Nat} {L : List Blk} : Knw n L [] [] := ⟨by simp, fun b c => by simp⟩
theorem Knw.snoc {n : Nat} (hn : 0 < n) {L Pre : List Blk} {kn : List Ent} (hL : Trn n L) (hP : ∀ b ∈ Pre, b ∈ L) {b : Blk} (hb : b ∈ L) (h : Knw n L Pre kn) : Knw n L (Pre ++ [b]) (putE kn (lst n b) (L.count b)) := by
  refine ⟨putE_nodup h.nd, fun l c => ?_⟩
  rw [putE_mem]
  -- blocks of one least one come equally often
  have same : ∀ a ∈ L, lst n a = lst n b → L.count a = L.count b := fun a ha e => by
    have q := (lst_is hn a).mem
    rw [e] at q
    have q2 : a ∈ orb n (lst n b) := mem_orb_symm hn (hL.can a ha) q
    have q3 := (mem_orb_iff hn (lst_is hn b).mem a).mp q2
    obtain ⟨k, rfl⟩ := (mem_orb hn).mp q3
    exact hL.cnt b (hL.can b hb) k
  constructor
  · rintro (⟨rfl, rfl⟩ | ⟨h1, h2⟩)
    · exact ⟨b, List.mem_append_right _ List.mem_cons_self, rfl, rfl⟩
    · obtain ⟨a, h3, h4, h5⟩ := (h.mem l c).mp h2
      exact ⟨a, List.mem_append_left _ h3, h4, h5⟩
  · rintro ⟨a, h1, rfl, rfl⟩
    rcases List.mem_append.mp h1 with h1 | h1
    · by_cases e : lst n a = lst n b
      · exact .inl ⟨e, by rw [same a (hP a h1) e]⟩
      · exact .inr ⟨e, (h.mem _ _).mpr ⟨a, h1, rfl, rfl⟩⟩
    · rw [List.mem_singleton] at h1
      subst h1
      exact .inl ⟨rfl, rfl⟩
theorem Knw.len {n : Nat} {L Pre : List Blk} {kn : List Ent} (h : Knw n L Pre kn) : kn.length ≤ Pre.length := by
  have : (kn.map (·.1)).length ≤ (Pre.map (lst n)).length := List.Nodup.length_le_of_subset h.nd fun x hx => by
    obtain ⟨e, he, rfl⟩ := List.mem_map.mp hx
    obtain ⟨b, hb, e1, _⟩ := (h.mem e.1 e.2).mp he
    exact List.mem_map.mpr ⟨b, hb, e1.symm⟩
  rwa [List.length_map, List.length_map] at this
theorem Knw.told {n : Nat} {L Pre : List Blk} {kn T : List Ent} (h : Knw n L Pre kn) (hP : ∀ b, b ∈ Pre ↔ b ∈ L) (p : T.Perm kn) (hs : T.Pairwise (fun e f => e.1 ≤ f.1)) : Told n L T := by
  refine ⟨hs, (p.map _).nodup_iff.mpr h.nd, fun l c => ?_⟩
  rw [p.mem_iff, h.mem]
  constructor
  · rintro ⟨b, h1, h2⟩; exact ⟨b, (hP b).mp h1, h2⟩
  · rintro ⟨b, h1, h2⟩; exact ⟨b, (hP b).mpr h1, h2⟩
/-- what is told -/
def toldOf (n : Nat) (L : List Blk) : List Ent := (srtB (L.map (lst n)).eraseDups).map fun l => (l, (L.count l : Int))
theorem toldOf_told {n : Nat} (hn : 0 < n) {L : List Blk} (hL : Trn n L) : Told n L (toldOf n L) := by
  have hd : (L.map (lst n)).eraseDups.Nodup := nodup_eraseDups _ _ (Nat.le_refl _)
  refine ⟨?_, ?_, fun l c => ?_⟩
  · unfold toldOf
    rw [List.pairwise_map]
    exact srtB_sorted _
  · unfold toldOf
    rw [List.map_map]
    have : (srtB (L.map (lst n)).eraseDups).map ((fun e : Ent => e.1) ∘ fun l => (l, (L.count l : Int))) = srtB (L.map (lst n)).eraseDups := by
      rw [show ((fun e : Ent => e.1) ∘ fun l : Blk => (l, (L.count l : Int))) = id from rfl, List.map_id]
    rw [this]
    exact (srtB_perm _).nodup_iff.mpr hd
  · unfold toldOf
    have cl : ∀ b ∈ L, L.count (lst n b) = L.count b := fun b hb => by
      obtain ⟨k, e⟩ := (mem_orb hn).mp (lst_is hn b).mem
      rw [e]
      exact hL.cnt b (hL.can b hb) k
    rw [List.mem_map]
    constructor
    · rintro ⟨l', h1, h2⟩
      cases h2
      have h3 := List.mem_eraseDups.mp ((srtB_perm _).mem_iff.mp h1)
      obtain ⟨b, hb, rfl⟩ := List.mem_map.mp h3
      exact ⟨b, hb, rfl, by rw [cl b hb]⟩
    · rintro ⟨b, hb, rfl, rfl⟩
      exact ⟨lst n b, (srtB_perm _).mem_iff.mpr (List.mem_eraseDups.mpr (List.mem_map.mpr ⟨b, hb, rfl⟩)), by rw [cl b hb]⟩
theorem Told.is {n : Nat} (hn : 0 < n) {L : List Blk} (hL : Trn n L) {T : List Ent} (h : Told n L T) : T = toldOf n L := h.uniq (toldOf_told hn hL) (List.Perm.refl _)
theorem toldOf_perm {n : Nat} (hn : 0 < n) {L M : List Blk} (hL : Trn n L) (p : L.Perm M) : toldOf n L = toldOf n M :=
  (toldOf_told hn hL).uniq (toldOf_told hn (hL.perm p.symm)) p
theorem orb_len (n : Nat) (b : Blk) : (orb n b).length = n := by simp [orb]
theorem dev_len (n : Nat) : ∀ bases : List Blk, (dev n bases).length = bases.length * n
  | [] => by simp [dev]
  | b :: bases => by
    have := dev_len n bases
    unfold dev at *
    rw [List.flatMap_cons, List.length_append, this, orb_len, List.length_cons, Nat.add_mul, Nat.one_mul, Nat.add_comm]
end Ev
-- part EvRules
/-! Rules that the kit lacks: sorting of tuples some of which are empty. -/
namespace EvR
open PySem PySem.W PySem.SeqAt PySem.Calls PyProof.Rows

section
variable {prog : Program} {w : World} {A : Around} {E : Value → Shared → Prop} {s : Shared}

theorem call_tuple_lt {Q : Value → Shared → Prop} {p q : Addr} {us vs : Array Value} {e r : Nat → Bool} (hp : s.heap.IsTuple p us) (hq : s.heap.IsTuple q vs)
    (same : ∀ (i : Nat) (a : i < us.size) (b : i < vs.size), EqAt A.in1 s us[i] vs[i] (e i)) (less : ∀ (i : Nat) (a : i < us.size) (b : i < vs.size), e i = false → RcLt A.in1 s us[i] vs[i] (r i))
    (k : Q (.bool (firstLt e r (decide (us.size < vs.size)) (List.range (min us.size vs.size)))) s) : wpAny (model prog w) A (call (.builtin "tuple.__lt__") [.ref p, .ref q]) Q E s := by
  rcases hp with ⟨⟨c1, d1, x1, l1⟩, g1, z1, n1, y1⟩
  rcases hq with ⟨⟨c2, d2, x2, l2⟩, g2, z2, n2, y2⟩
  simp only at z1 y1 z2 y2
  cases z1; cases y1; cases z2; cases y2
  exact call_meets PySem.F.slot_tuple_lt ⟨_, g1, rfl⟩ PySem.F.entry_tuple_lt (PySem.F.args_tuple_lt_2 _ _) (tuple_ltAt p q us vs n1 n2 d1 d2 l1 l2 e r) ⟨g1, g2, same, less, k⟩
/-- what reads as a tuple is one -/
theorem reads_tup {h : Heap} {v : Value} {xs : List PyData} {as : List Addr} (r : Reads h v (.tuple xs) as) : ∃ p us, v = .ref p ∧ h.IsTuple p us ∧ ReadsAll h us.toList xs as ∧ us.size = xs.length := by
  cases r with
  | tuple g c d t => exact ⟨_, _, rfl, ⟨_, g, c, _, d⟩, t, by simpa using ReadsAll.length _ _ _ t⟩
theorem oneLt_tup {xs ys : List PyData} {a b : Value} {as bs : List Addr} {Q : Bool → Shared → Prop} (ra : Reads s.heap a (.tuple xs) as) (rb : Reads s.heap b (.tuple ys) bs) (al : alikeAll xs ys = true)
    (few : A.units + min (PyData.tuple xs).depth (PyData.tuple ys).depth < cLine) (q : Q (dataLt (.tuple xs) (.tuple ys)) s) : wpAny (model prog w) A (oneLt' true a b) Q E s := by
  obtain ⟨p1, us, rfl, t1, all1, len1⟩ := reads_tup ra
  obtain ⟨p2, vs, rfl, t2, all2, len2⟩ := reads_tup rb
  have both : dataLt (.tuple xs) (.tuple ys) = firstLt (pairEq xs ys) (fun j => dataLt (xs.getD j .none) (ys.getD j .none)) (decide (us.size < vs.size)) (List.range (min us.size vs.size)) := by
    rw [len1, len2, dataLt_tuple, firstLt_toks xs ys al]
  rw [both] at q
  rw [oneLt'_eq, if_pos rfl]
  apply wpAny_bind
  apply wpAny_cRoomFor (room_here few)
  apply wpAny_bind
  refine wpAny_callSpecialIfBound?_slot (T := "tuple") (by obtain ⟨o, g, c, _⟩ := t1; exact ⟨o, g, c⟩) PySem.F.slot_tuple_lt (call_tuple_lt t1 t2 (fun j j1 j2 => ?_) (fun j j1 j2 unlike => ?_) (wpAny_truthy_bool q))
  · have eq := eqAt_alikeAll xs ys A.in1 s us.toList vs.toList _ _ all1 all2 al (room_in few) j (by simpa using j1) (by simpa using j2)
    simpa using eq
  · have lt := rcLt_alikeAll xs ys A.in1 s us.toList vs.toList _ _ all1 all2 al (room_in few) j (by simpa using j1) (by simpa using j2) unlike
    simpa using lt

/-- values that are tuples, with their first items where there are some -/
inductive Heads (h : Heap) : List Value → List (Option Value) → Prop
  | nil : Heads h [] []
  | cons {p : Addr} {us : Array Value} {vs : List Value} {fs : List (Option Value)} : h.IsTuple p us → Heads h vs fs → Heads h (.ref p :: vs) (us[0]? :: fs)
theorem tup_look {M : Model} {h : Heap} {p : Addr} {us : Array Value} (t : h.IsTuple p us) : Looks M h (typeOf (.ref p)) (Value.type "tuple") := by
  obtain ⟨ob, gp, cp, _⟩ := t
  exact cp ▸ (Looks.ld gp).andThen .now
theorem Heads.run {M : Model} {vs : List Value} {fs : List (Option Value)} (t : Heads s.heap vs fs) : ∀ {Q : List (Option Value) → Shared → Prop}, Q fs s → wpAny M A (vs.mapM firstOfTuple') Q E s := by
  induction t with
  | nil =>
    intro Q q
    rw [List.mapM_nil]
    exact wpAny_pure q
  | @cons p us vs fs tp _ ih =>
    intro Q q
    rw [List.mapM_cons]
    apply wpAny_bind
    rw [kas_first_eq]
    apply wpAny_bind
    refine (tup_look tp).here ?_
    rw [if_neg (by decide)]
    apply wpAny_bind
    obtain ⟨ob, gp, _, n, dp⟩ := tp
    refine listItems_at gp dp (wpAny_pure (wpAny_bind (ih ?_)))
    exact wpAny_pure q
theorem Heads.looks {M : Model} {h : Heap} {vs : List Value} {fs : List (Option Value)} (t : Heads h vs fs) : ∀ u ∈ vs, Looks M h (typeOf u) (Value.type "tuple") := by
  induction t with
  | nil => exact fun u hu => absurd hu List.not_mem_nil
  | cons tp _ ih =>
    intro u hu
    cases hu with
    | head => exact tup_look tp
    | tail _ hu => exact ih u hu
theorem heads_of {h : Heap} {vs : List Value} {ds : List PyData} (e : EachIs (fun v d => ∃ as, Reads h v d as) vs ds) (ht : ∀ d ∈ ds, ∃ xs, d = .tuple xs) : ∃ fs, Heads h vs fs ∧ (.tuple [] ∈ ds → none ∈ fs) := by
  induction e with
  | nil => exact ⟨[], .nil, fun z => absurd z List.not_mem_nil⟩
  | @cons v d vs ds r _ ih =>
    obtain ⟨fs, t, k⟩ := ih fun x hx => ht x (.tail _ hx)
    obtain ⟨xs, rfl⟩ := ht d (.head _)
    obtain ⟨as, r⟩ := r
    obtain ⟨p, us, rfl, tp, _, len⟩ := reads_tup r
    refine ⟨us[0]? :: fs, .cons tp t, fun z => ?_⟩
    cases z with
    | tail _ z => exact .tail _ (k z)
    | head =>
      have none0 : us[0]? = none := Array.getElem?_eq_none (by rw [len]; exact Nat.le_refl 0)
      rw [none0]
      exact .head _
/-- a tuple is empty: sorting chooses one way of both, by the first of all -/
theorem Heads.kind {M : Model} {vs : List Value} {fs : List (Option Value)} (t : Heads s.heap vs fs) (hno : none ∈ fs) {Q : SortKind → Shared → Prop} (q : Q (if (fs.toArray[0]?.bind id).isSome = true then general' else oneType') s) : wpAny M A (keyKind' vs.toArray) Q E s := by
  have some_no : ¬ fs.toArray.all (·.isSome) = true := fun z => by
    rw [List.all_toArray] at z
    exact Bool.false_ne_true (List.all_eq_true.mp z none hno)
  have ne : vs ≠ [] := by
    rintro rfl
    cases t
    cases hno
  rw [keyKind'_eq, List.mapM_toArray]
  rw [map_eq_pure_bind]
  apply wpAny_bind
  apply wpAny_bind
  refine t.run (wpAny_pure ?_)
  rw [if_neg some_no]
  split at q
  · next z => rw [if_pos z]; exact wpAny_pure q
  · next z =>
    rw [if_neg z, oneTypeOnly'_eq, List.mapM_toArray, map_eq_pure_bind]
    apply wpAny_bind
    apply wpAny_bind
    apply wpAny_bind
    refine kas_mapM (r := Value.type "tuple") _ (fun u hu _ hq => (t.looks u hu).here hq) (wpAny_pure ?_)
    obtain ⟨u, r, rfl⟩ := List.exists_cons_of_ne_nil ne
    have every : ((List.map (fun _ => Value.type "tuple") (u :: r)).toArray.all fun x => x == Value.type "tuple") = true := by
      rw [List.all_toArray, List.all_map]
      refine List.all_eq_true.mpr fun _ _ => ?_
      exact beq_self_eq_true (Value.type "tuple")
    rw [show (List.map (fun _ => Value.type "tuple") (u :: r)).toArray[0]? = some (Value.type "tuple") from rfl]
    simp only [every, if_true]
    exact wpAny_pure (wpAny_pure q)

/-- tuples of alike data, empty ones among them, can be sorted -/
theorem sortsAt_tups {vs : List Value} {ds : List PyData} (e : EachIs (fun v d => ∃ as, Reads s.heap v d as) vs ds) (hal : AllAlike ds) (ht : ∀ d, d ∈ ds → ∃ xs, d = .tuple xs) (hu : ∀ d, d ∈ ds → A.units + d.depth < cLine) : SortsAt prog w A s (dataKind s.heap ds) vs := by
  rcases Classical.em (PyData.tuple [] ∈ ds) with empty | full
  · have few : ∀ {d d' : PyData}, d ∈ ds → A.units + min d.depth d'.depth < cLine := fun {d d'} m => by
      have := hu d m
      have := Nat.min_le_left d.depth d'.depth
      omega
    obtain ⟨fs, t, k⟩ := heads_of e ht
    refine ⟨fun v m => ?_, if (fs.toArray[0]?.bind id).isSome = true then general' else oneType', ?_, fun _ E Q q => t.kind (k empty) q⟩
    · obtain ⟨d, m, as, r⟩ := e.left v m
      exact ⟨_, dataKind_some hal m r⟩
    · intro E x y a b Q ha hb q
      obtain ⟨d1, as1, m1, r1, rfl⟩ := dataKind_inv ha
      obtain ⟨d2, as2, m2, r2, rfl⟩ := dataKind_inv hb
      have al := hal d1 m1 d2 m2
      have room := few (d' := d2) m1
      obtain ⟨xs, rfl⟩ := ht d1 m1
      obtain ⟨ys, rfl⟩ := ht d2 m2
      split
      · show wpAny (model prog w) A (oneLt' false x y) Q E s
        exact oneLt_alike (fun z => nomatch z) r1 r2 al (fun z => nomatch z) room q
      · rw [keyLt'_oneType]
        exact oneLt_tup r1 r2 (by rw [alike] at al; exact al) room q
  · refine SortsAt.data e hal (.inl fun d m => ?_) hu
    obtain ⟨xs, rfl⟩ := ht d m
    cases xs with
    | nil => exact absurd m full
    | cons x r => exact ⟨x, r, rfl⟩

/-- list.sort() of a list at p whose items read, wherever the objects of h0 stand, as tuples of alike data -/
theorem sort_tups_at {β : Type} {R : Value → β → Prop} {enc : β → PyData} {h0 : Heap} {p : Addr} {vs : List Value} {bs : List β} {n : Nat} {Z : PySem.Fin → Shared → Prop} (here : s.heap.get? p = some (seqObj "list" vs.toArray n))
    (old : ∀ b o, h0.get? b = some o → b ≠ p ∧ s.heap.get? b = some o) (e : EachIs R vs bs) (er : EachIs (fun v b => ∃ as, Reads h0 v (enc b) as) vs bs) (al : AllAlike (bs.map enc)) (ht : ∀ b, ∃ xs, enc b = .tuple xs) (hL : bs.length ≤ sizeLine)
    (hu : ∀ b, b ∈ bs → A.units + (enc b).depth < cLine)
    (k : ∀ out, out.length = bs.length → EachIs R out (bs.mergeSort (dataLe false enc)) → Z (.done (.ret .none)) { s with heap := sortedHeap s.heap p vs (List.toArray out) }) :
    wpAny (model prog w) A (Builtin.«list.sort» ⟨[.ref p], []⟩) Z E s := by
  have read : EachIs (fun v b => ∃ as, Reads (sortingHeap s.heap p vs) v (enc b) as) vs bs := er.mono fun _ _ ⟨as, r⟩ => ⟨as, PyProof.Rows.Reads.keeps (fun b o g => sortingHeap_old (old b o g).1 (old b o g).2) r⟩
  have tups : ∀ d, d ∈ bs.map enc → ∃ xs, d = .tuple xs := fun d m => by
    rcases List.mem_map.mp m with ⟨b, -, e⟩
    exact e ▸ ht b
  have len := e.length
  have sorts := sortsAt_tups (prog := prog) (w := w) (s := { s with heap := sortingHeap s.heap p vs }) (each_map (R := fun v d => ∃ as, Reads (sortingHeap s.heap p vs) v d as) enc read) al tups (bound_map hu)
  exact list_sort_vals here sorts (len ▸ hL) (k _ ((sortVals_length false rfl).trans len) (sortVals_data false e read al))

/-- what sorted does behind the collecting: the values stand at a new list, which is sorted -/
theorem sorted_tail {β : Type} {R : Value → β → Prop} {enc : β → PyData} {h0 : Heap} {vs : List Value} {bs : List β} {Q : Value → Shared → Prop} (old : ∀ b o, h0.get? b = some o → s.heap.get? b = some o) (e : EachIs R vs bs)
    (er : EachIs (fun v b => ∃ as, Reads h0 v (enc b) as) vs bs) (al : AllAlike (bs.map enc)) (ht : ∀ b, ∃ xs, enc b = .tuple xs) (hL : bs.length ≤ sizeLine) (hu : ∀ b, b ∈ bs → A.units + 1 + (enc b).depth < cLine)
    (k : ∀ (out : List Value) (h' : Heap) (c : Nat), out.length = bs.length → EachIs R out (bs.mergeSort (dataLe false enc)) → (∀ b o, s.heap.get? b = some o → h'.get? b = some o) → h'.get? s.heap.objs.size = some (seqObj "list" out.toArray c) →
      Q (.ref s.heap.objs.size) { s with heap := h' }) :
    wpAny (model prog w) A (newList vs >>= fun l => holding [l] (call (.builtin "list.sort") [l] []) >>= fun _ => ret l) (fun f s' => ∃ v, f = .done (.ret v) ∧ Q v s') E s := by
  have len := e.length
  apply wpAny_bind
  refine wpAny_newList ?_ (len ▸ hL)
  have new : (s.heap.push (seqObj "list" vs.toArray 0)).get? s.heap.objs.size = some (seqObj "list" vs.toArray 0) := Heap.get?_push_size _ rfl
  have grow : ∀ b o, s.heap.get? b = some o → b ≠ s.heap.objs.size ∧ (s.heap.push (seqObj "list" vs.toArray 0)).get? b = some o := fun b o g => ⟨Nat.ne_of_lt (Heap.lt_size g), Heap.get?_push_of_some _ g⟩
  show wpAny _ _ _ _ _ { s with heap := s.heap.push (seqObj "list" vs.toArray 0) }
  apply wpAny_bind
  apply wpAny_holding
  refine wpAny_call_entry slot_list_sort ⟨_, new, rfl⟩ entry_list_sort ?_ (args_list_sort _)
  refine sort_tups_at (s := { s with heap := s.heap.push (seqObj "list" vs.toArray 0) }) (h0 := h0) new (fun b o g => grow b o (old b o g)) e er al ht hL hu fun out hn ho => ⟨_, rfl, ?_⟩
  obtain ⟨c, hc⟩ := sortedHeap_at (vs := vs) (out := out.toArray) new
  refine wpAny_pure ⟨_, rfl, k out _ c hn ho (fun b o g => ?_) hc⟩
  obtain ⟨g1, g2⟩ := grow b o g
  exact (sortedHeap_old g1 (Heap.lt_size g2)).trans g2
end
end EvR
-- part EvRules2
namespace EvR
open PySem PySem.W PySem.SeqAt PySem.Calls PyProof.Rows
/-! ### orders -/
theorem dlt_tup (xs ys : List Int) : dataLt (.tuple (xs.map .int)) (.tuple (ys.map .int)) = decide (xs < ys) := by
  rw [dataLt_tuple]
  exact dataLt_ints xs ys
def encB {α : Type} (k : α → List Int) (b : α) : PyData := .tuple ((k b).map .int)
theorem leB {α : Type} {k : α → List Int} {x y : α} (h : dataLe false (encB k) x y = true) : k x ≤ k y := by
  have h' : (!dataLt (encB k y) (encB k x)) = true := h
  unfold encB at h'
  rw [dlt_tup] at h'
  simp only [Bool.not_eq_true', decide_eq_false_iff_not] at h'
  exact List.not_lt.mp h'
def encE {α : Type} (k : α → List Int × Int) (b : α) : PyData := .tuple [.tuple ((k b).1.map .int), .int (k b).2]
theorem eqv_ints : ∀ xs ys : List Int, PyData.eqvAll (xs.map .int) (ys.map .int) = decide (xs = ys)
  | [], [] => by simp [PyData.eqvAll]
  | [], y :: ys => by simp [PyData.eqvAll]
  | x :: xs, [] => by simp [PyData.eqvAll]
  | x :: xs, y :: ys => by
    rw [List.map_cons, List.map_cons, eqv_all_cons, eqv_ints xs ys]
    by_cases h1 : x = y <;> by_cases h2 : xs = ys <;> simp [PyData.eqv, h1, h2]
theorem leE {α : Type} {k : α → List Int × Int} {x y : α} (h : dataLe false (encE k) x y = true) : (k x).1 ≤ (k y).1 := by
  have h' : (!dataLt (encE k y) (encE k x)) = true := h
  unfold encE at h'
  rw [dataLt_pair (by simp [alike, alike_ints]) (by simp [alike])] at h'
  by_cases e : (k y).1 = (k x).1
  · rw [e]
    exact List.le_refl _
  · have hq : PyData.eqv (.tuple ((k y).1.map .int)) (.tuple ((k x).1.map .int)) = false := by
      rw [PyData.eqv, eqv_ints]
      exact decide_eq_false e
    rw [if_neg (by rw [hq]; exact Bool.false_ne_true), dlt_tup] at h'
    simp only [Bool.not_eq_true', decide_eq_false_iff_not] at h'
    exact List.not_lt.mp h'
theorem sortB_pw {α : Type} (k : α → List Int) (l : List α) : (l.mergeSort (dataLe false (encB k))).Pairwise (fun x y => k x ≤ k y) :=
  (sort_pairwise (sortLe_total (listOrd itemOrd) false fun b => keyToks (encB k b)) l).imp fun h => leB h
theorem sortE_pw {α : Type} (k : α → List Int × Int) (l : List α) : (l.mergeSort (dataLe false (encE k))).Pairwise (fun x y => (k x).1 ≤ (k y).1) :=
  (sort_pairwise (sortLe_total (listOrd itemOrd) false fun b => keyToks (encE k b)) l).imp fun h => leE h
theorem depthB {α : Type} (k : α → List Int) (b : α) : (encB k b).depth = 1 := by
  show (PyData.tuple ((k b).map .int)).depth = 1
  rw [PyData.depth, depth_ints]
theorem depthE {α : Type} (k : α → List Int × Int) (b : α) : (encE k b).depth = 2 := by
  show (PyData.tuple [.tuple ((k b).1.map .int), .int (k b).2]).depth = 2
  simp [PyData.depth, PyData.depthAll, depth_ints]

section
variable {prog : Program} {w : World} {A : Around} {E : Value → Shared → Prop} {s : Shared}
/-- the heap behind the collecting of vs -/
abbrev heapWith (h : Heap) (vs : List Value) : Heap := (h.push (seqObj "list" #[] 0)).update h.objs.size (Obj.mapSeq (· ++ vs.toArray))
theorem heapWith_size (h : Heap) (vs : List Value) : (heapWith h vs).objs.size = h.objs.size + 1 := (Heap.size_update ..).trans (size_push' ..)
theorem heapWith_old {h : Heap} {vs : List Value} {b : Addr} {o : Obj} (g : h.get? b = some o) : (heapWith h vs).get? b = some o :=
  (Heap.get?_update_ne _ _ _ _ (Nat.ne_of_lt (Heap.lt_size g))).trans (Heap.get?_push_of_some _ g)
theorem collect_tup {p : Addr} {vs : List Value} {Q : List Value → Shared → Prop} (t : s.heap.IsTuple p vs.toArray) (few : vs.length ≤ sizeLine) (q : Q vs { s with heap := heapWith s.heap vs }) : wpAny (model prog w) A (collect (.ref p)) Q E s := by
  obtain ⟨ob, gp, cp, n, dp⟩ := t
  have gp' : (s.heap.push (seqObj "list" #[] 0)).get? p = some ob := Heap.get?_push_of_some _ gp
  have nil : (s.heap.push (seqObj "list" #[] 0)).get? s.heap.objs.size = some (seqObj "list" #[] 0) := Heap.get?_push_size _ rfl
  unfold collect
  apply wpAny_bind
  apply wpAny_runValue
  refine codeAny_builtin entry_proto_collect' ?_
  show wpAny _ _ (newList [] >>= fun z => again (.builtin "list.__iadd__" ⟨[z, .ref p], []⟩)) _ _ s
  apply wpAny_bind
  refine wpAny_newList (wpAny_pure ⟨Code.quiet_builtin _ (by decide +kernel), codeAny_builtin entry_list_iadd' ?_⟩)
  show wpAny _ _ (Builtin.List.listExtendWith (.ref s.heap.objs.size) (.ref p) (.ref s.heap.objs.size)) _ _ ({ s with heap := s.heap.push (seqObj "list" #[] 0) } : Shared)
  rw [Builtin.List.listExtendWith]
  apply wpAny_bind
  refine wpAny_typeOf (T := "tuple") ⟨ob, gp', cp⟩ ?_
  rw [if_pos (by rw [show (Value.type "tuple" == Value.type "tuple") = true from rfl, Bool.or_true])]
  apply wpAny_bind
  refine listItems_at gp' dp ?_
  apply wpAny_bind
  refine listItems_at nil rfl ?_
  rw [if_neg (by simp)]
  apply wpAny_bind
  refine listUpdate_at nil rfl (wpAny_pure ?_) (Nat.zero_le _) ?_
  · show wpAny _ _ (load s.heap.objs.size >>= fun o => match o.data with
      | .seq xs _ => pure xs.toList
      | _ => unsupported "internal:collect") Q E ({ s with heap := heapWith s.heap vs } : Shared)
    apply wpAny_bind
    refine wpAny_load (get?_update_seq nil _) (wpAny_pure ?_)
    have all : ((#[] : Array Value) ++ vs.toArray).toList = vs := by simp
    exact all.symm ▸ q
  · have all : ((#[] : Array Value) ++ vs.toArray).size = vs.length := by simp
    exact all.symm ▸ Nat.le_succ_of_le few
/-- sorted(p), p a list or a tuple, of tuples of alike data -/
theorem sorted_tups2 {β : Type} {R : Value → β → Prop} {enc : β → PyData} {p : Addr} {vs : List Value} {bs : List β} {Q : Value → Shared → Prop} (hp : s.heap.IsList p vs.toArray ∨ s.heap.IsTuple p vs.toArray) (e : EachIs R vs bs)
    (er : EachIs (fun v b => ∃ as, Reads s.heap v (enc b) as) vs bs) (al : AllAlike (bs.map enc)) (ht : ∀ b, ∃ xs, enc b = .tuple xs) (hL : bs.length ≤ sizeLine) (hu : ∀ b, b ∈ bs → A.units + 2 + (enc b).depth < cLine)
    (k : ∀ (out : List Value) (h' : Heap) (r : Addr) (c : Nat), out.length = bs.length → EachIs R out (bs.mergeSort (dataLe false enc)) → (∀ b o, s.heap.get? b = some o → h'.get? b = some o) → s.heap.objs.size ≤ r → h'.get? r = some (seqObj "list" out.toArray c) →
      Q (.ref r) { s with heap := h' }) :
    wpAny (model prog w) A (call (.builtin "sorted") [.ref p]) Q E s := by
  have few : vs.length ≤ sizeLine := e.length ▸ hL
  have behind := sorted_tail (prog := prog) (w := w) (A := A.in1) (E := E) (s := { s with heap := heapWith s.heap vs }) (h0 := s.heap) (Q := Q) (fun b o g => heapWith_old g) e er al ht hL hu
    fun out h' c hn ho old hc => k out h' _ c hn ho (fun b o g => old b o (heapWith_old g)) (by rw [heapWith_size]; exact Nat.le_succ _) hc
  apply Calls.call_function_entry kind_sorted plain_sorted entry_sorted (args_sorted1 _)
  rw [Builtin.«sorted»]
  apply wpAny_bind
  refine wpAny_pure ?_
  apply wpAny_bind
  exact hp.elim (fun z => collect_list z behind few) fun z => collect_tup z few behind
end
end EvR

namespace L2
open PySem PySem.Spec PyProof.Rows
/-! ### what the hand layer asks of them -/
theorem each_vals {β : Type} (f : β → V) : ∀ {bs : List β} {us : List Value}, Vals (bs.map f) us → PySem.W.EachIs (fun u b => RelV (f b) u) us bs
  | [], _, r => by
    cases r
    exact .nil
  | b :: bs, _, r => by
    cases r with
    | cons r1 r2 => exact .cons r1 (each_vals f r2)
theorem vals_each {β : Type} (f : β → V) : ∀ {bs : List β} {us : List Value}, PySem.W.EachIs (fun u b => RelV (f b) u) us bs → Vals (bs.map f) us
  | _, _, .nil => .nil
  | _, _, .cons r1 r2 => .cons r1 (vals_each f r2)
theorem dp_ints {K : PySem.W.Frag} {H : Hp} : ∀ ns : List Int, DpAll K H (ns.map V.int) (ns.map .int)
  | [] => .nil
  | n :: ns => .cons (.int n) (dp_ints ns)
theorem each_with {α β : Type} {F G : α → β → Prop} : ∀ {as : List α} {bs : List β}, PySem.W.EachIs F as bs → (∀ a b, b ∈ bs → F a b → G a b) → PySem.W.EachIs G as bs
  | _, _, .nil, _ => .nil
  | _, _, .cons h t, k => .cons (k _ _ (List.mem_cons_self ..) h) (each_with t fun a b hb => k a b (List.mem_cons_of_mem _ hb))
section
variable {X : Cx}
/-- sorted(xs), xs a list or a tuple of tuples of ints, of any lengths -/
def rSortB (K : PySem.W.Frag) : List V → Hp → VK → Prop := fun vs H Q => ∃ (a : Addr) (bs : List (V × List Int)), vs = [V.ref a] ∧ (SqL K H a (bs.map (·.1)) ∨ SqT K H a (bs.map (·.1))) ∧ (∀ p ∈ bs, TupI K H p.1 p.2) ∧
  ∀ (cs : List (V × List Int)) (p : Addr), cs.Perm bs → cs.Pairwise (fun x y => x.2 ≤ y.2) → H p = none → Q (.ref p) (upd H p (.lst (cs.map (·.1))))
theorem cr_sortB (hu : X.A.units + 64 < cLine) : CallR X (.builtin "sorted") (rSortB X.K) := by
  rintro pins s σ H vs us Q I r ⟨a, bs, rfl, hs, hx, q⟩
  rw [Vals.ref1 r]
  have go : ∀ its : List Value, Vals (bs.map (·.1)) its → (s.heap.IsList a its.toArray ∨ s.heap.IsTuple a its.toArray) → bs.length ≤ sizeLine → wpAny (model X.prog X.w) X.A (call (.builtin "sorted") [.ref a]) (EP X pins σ Q) X.xe s := by
    intro its rv hl hz
    have e := each_vals (fun b : V × List Int => b.1) rv
    refine EvR.sorted_tups2 (R := fun u b => RelV b.1 u) (enc := EvR.encB fun b : V × List Int => b.2) hl e (each_with e fun u b hb ru => ?_) (PySem.W.AllAlike.of fun b b' => ?_) (fun b => ⟨_, rfl⟩) hz (fun b _ => ?_) fun out h' p c hn ho k hp hc => ?_
    · obtain ⟨t, et, ht⟩ := hx b hb
      exact Dp.reads I _ b.1 u (by rw [et]; exact .tup ht (dp_ints _)) ru
    · simp [EvR.encB, PySem.W.alike, PySem.W.alike_ints]
    · rw [EvR.depthB]
      omega
    · have hperm := List.mergeSort_perm bs (PySem.W.dataLe false (EvR.encB fun b : V × List Int => b.2))
      refine ⟨.ref p, upd H p (.lst ((bs.mergeSort (PySem.W.dataLe false (EvR.encB fun b : V × List Int => b.2))).map (·.1))), I.laid (t' := s.toks) k hp ⟨?_, out, c, vals_each _ ho, hc⟩, rfl, q _ p hperm (EvR.sortB_pw _ _) (I.hok.fresh hp)⟩
      rw [List.length_map, hperm.length_eq]
      exact hz
  rcases hs with hs | hs
  · obtain ⟨its, rv, hl, hz⟩ := I.list hs
    exact go its rv (.inl hl.isList) (by simpa using hz)
  · obtain ⟨its, rv, hl, hz⟩ := I.tuple hs
    exact go its rv (.inr hl) (by simpa using hz)
/-- min(xs), xs a list of tuples of ints -/
def rMinB (K : PySem.W.Frag) : List V → Hp → VK → Prop := fun vs H Q => ∃ (a : Addr) (bs : List (V × List Int)), vs = [V.ref a] ∧ SqL K H a (bs.map (·.1)) ∧ bs ≠ [] ∧ (∀ p ∈ bs, TupI K H p.1 p.2) ∧
  ∀ p ∈ bs, (∀ q ∈ bs, p.2 ≤ q.2) → Q p.1 H
end
end L2
-- part EvRules3
namespace EvR
open PySem PySem.W PySem.SeqAt PySem.Calls PyProof.Rows
def encI (ns : List Int) : PyData := .tuple (ns.map .int)
theorem ints_inj : ∀ {xs ys : List Int}, xs.map PyData.int = ys.map PyData.int → xs = ys
  | [], [], _ => rfl
  | [], _ :: _, h => by cases h
  | _ :: _, [], h => by cases h
  | x :: xs, y :: ys, h => by
    obtain ⟨h1, h2⟩ := List.cons.inj (show PyData.int x :: xs.map .int = .int y :: ys.map .int from h)
    injection h1 with h1
    rw [h1, ints_inj h2]
theorem encI_inj {x y : List Int} (h : encI x = encI y) : x = y := by
  unfold encI at h
  injection h with h
  exact ints_inj h
def minL (x : List Int) (xs : List (List Int)) : List Int := xs.foldl (fun a y => if y < a then y else a) x
theorem minD_encI : ∀ (xs : List (List Int)) (x : List Int), minD (encI x) (xs.map encI) = encI (minL x xs)
  | [], _ => rfl
  | y :: ys, x => by
    have lt : dataLt (encI y) (encI x) = decide (y < x) := dlt_tup y x
    show minD (if dataLt (encI y) (encI x) = true then encI y else encI x) (ys.map encI) = encI (minL (if y < x then y else x) ys)
    rw [← minD_encI ys, lt]
    congr 1
    by_cases c : y < x <;> simp [c]
theorem minL_spec : ∀ (xs : List (List Int)) (x : List Int), minL x xs ∈ x :: xs ∧ ∀ y ∈ x :: xs, minL x xs ≤ y
  | [], x => ⟨.head _, fun y m => by
    rw [List.mem_singleton.mp m]
    exact List.le_refl _⟩
  | z :: xs, x => by
    show minL (if z < x then z else x) xs ∈ _ ∧ ∀ y ∈ _, minL (if z < x then z else x) xs ≤ y
    by_cases c : z < x
    · rw [if_pos c]
      obtain ⟨h1, h2⟩ := minL_spec xs z
      refine ⟨.tail _ h1, fun y m => ?_⟩
      cases m with
      | head => exact List.le_trans (h2 z (.head _)) (List.le_of_lt c)
      | tail _ m => exact h2 y m
    · rw [if_neg c]
      obtain ⟨h1, h2⟩ := minL_spec xs x
      have hz : minL x xs ≤ z := List.le_trans (h2 x (.head _)) (List.not_lt.mp c)
      refine ⟨?_, fun y m => ?_⟩
      · generalize minL x xs = w at h1
        cases h1 with
        | head => exact .head _
        | tail _ h1 => exact .tail _ (.tail _ h1)
      · cases m with
        | head => exact h2 x (.head _)
        | tail _ m =>
          cases m with
          | head => exact hz
          | tail _ m => exact h2 y (.tail _ m)
theorem depthAll_encI : ∀ xs : List (List Int), PyData.depthAll (xs.map encI) ≤ 1
  | [] => Nat.zero_le 1
  | x :: xs => by
    have h1 : (encI x).depth = 1 := depthB (fun b : List Int => b) x
    have h2 := depthAll_encI xs
    rw [List.map_cons, PyData.depthAll, h1]
    omega
theorem each_readsAll' {h : Heap} : ∀ {vs : List Value} {xs : List (List Int)}, EachIs (fun v x => ∃ as, Reads h v (encI x) as) vs xs → ∃ as, ReadsAll h vs (xs.map encI) as := fun e => each_readsAll encI e
theorem each_get {α β : Type} {R : α → β → Prop} : ∀ {as : List α} {bs : List β}, EachIs R as bs → ∀ (i : Nat) (a : α), as[i]? = some a → ∃ b, bs[i]? = some b ∧ R a b
  | _, _, .nil, _, _, h => by simp at h
  | _, _, .cons r _, 0, a, h => by
    have e := Option.some.inj (show some _ = some a from h)
    subst e
    exact ⟨_, rfl, r⟩
  | _, _, .cons _ t, i + 1, a, h => by
    obtain ⟨b, h1, h2⟩ := each_get t i a (by simpa using h)
    exact ⟨b, by simpa using h1, h2⟩
end EvR
namespace L2
open PySem PySem.Spec PyProof.Rows
theorem each_mapR {α β γ : Type} {F : α → γ → Prop} (f : β → γ) : ∀ {as : List α} {bs : List β}, PySem.W.EachIs (fun a b => F a (f b)) as bs → PySem.W.EachIs F as (bs.map f)
  | _, _, .nil => .nil
  | _, _, .cons h t => .cons h (each_mapR f t)
section
variable {X : Cx}
theorem cr_minB (hc : X.calm = true) (hu : X.A.units + 64 < cLine) : CallR X (.builtin "min") (rMinB X.K) := by
  rintro pins s σ H vs us Q I r ⟨a, bs, rfl, hs, hne, hx, q⟩
  rw [Vals.ref1 r]
  obtain ⟨its, rv, hl, -⟩ := I.list hs
  have e := each_vals (fun b : V × List Int => b.1) rv
  have er : PySem.W.EachIs (fun u (b : V × List Int) => ∃ as, Reads s.heap u (EvR.encI b.2) as) its bs := each_with e fun u b hb ru => by
    obtain ⟨t, et, ht⟩ := hx b hb
    exact Dp.reads I _ b.1 u (by rw [et]; exact .tup ht (dp_ints _)) ru
  obtain ⟨as, ra⟩ := EvR.each_readsAll' (each_mapR (fun b : V × List Int => b.2) er)
  obtain ⟨x, xs, ex⟩ : ∃ x xs, bs.map (·.2) = x :: xs := by
    cases bs with
    | nil => exact absurd rfl hne
    | cons b l => exact ⟨_, _, rfl⟩
  rw [ex, List.map_cons] at ra
  have alk : ∀ p q : List Int, PySem.W.alike (EvR.encI p) (EvR.encI q) = true := fun p q => by simp [EvR.encI, PySem.W.alike, PySem.W.alike_ints]
  refine PySem.W.min_list_data (I.ok.hd hc) hl.isList (x := EvR.encI x) (xs := xs.map EvR.encI) (as := as) (by simpa using ra) ⟨fun d hd d' hd' => ?_, fun d hd => ?_⟩ ?_ fun i v h' tk bs' hv hr k => ?_
  · rw [← List.map_cons] at hd hd'
    obtain ⟨p, _, rfl⟩ := List.mem_map.mp hd
    obtain ⟨p', _, rfl⟩ := List.mem_map.mp hd'
    exact alk p p'
  · rw [← List.map_cons] at hd
    obtain ⟨p, _, rfl⟩ := List.mem_map.mp hd
    intro z
    cases z
  · have := EvR.depthAll_encI (x :: xs)
    rw [List.map_cons] at this
    omega
  · obtain ⟨b, hb, rb⟩ := EvR.each_get e i v (by simpa using hv)
    obtain ⟨b', hb', as', rb'⟩ := EvR.each_get er i v (by simpa using hv)
    have eb : b' = b := Option.some.inj (hb'.symm.trans hb)
    rw [eb] at rb'
    rw [EvR.minD_encI xs] at hr
    have e2 := PySem.W.alike_unique _ _ _ _ _ (alk _ _) (PyProof.Rows.Reads.keeps k rb') hr
    have e3 := EvR.encI_inj e2
    obtain ⟨_, m2⟩ := EvR.minL_spec xs x
    refine ⟨b.1, H, I.kept (t' := tk) k, rb, q b (List.mem_of_getElem? hb) fun c hcm => ?_⟩
    rw [e3]
    exact m2 c.2 (by rw [← ex]; exact List.mem_map.mpr ⟨c, hcm, rfl⟩)

/-- sorted(set), a set of tuples of ints -/
def rSortSetB (K : PySem.W.Frag) (P : Program) (w : World) : List V → Hp → VK → Prop := fun vs H Q => ∃ (a : Addr) (L : List (Addr × List Int)), vs = [V.ref a] ∧ H a = some (SetTO P w a L) ∧ (∀ p ∈ L, SqT K H p.1 (p.2.map V.int)) ∧
  ∀ (L' : List (Addr × List Int)) (p : Addr), L'.Perm L → (L'.map (·.2)).Nodup → L'.Pairwise (fun q r => q.2 ≤ r.2) → H p = none → Q (.ref p) (upd H p (.lst (L'.map fun q => V.ref q.1)))
theorem perm_of_map {α β : Type} {f : α → β} : ∀ {L : List α} {vs : List β}, vs.Perm (L.map f) → ∃ K : List α, vs = K.map f ∧ K.Perm L
  | [], _, p => ⟨[], p.eq_nil, .refl _⟩
  | x :: L, _, p => by
    obtain ⟨s, t, rfl⟩ := List.append_of_mem (p.mem_iff.mpr (.head _))
    obtain ⟨K, e, k⟩ := perm_of_map (L := L) (List.perm_middle.symm.trans p).cons_inv
    obtain ⟨S, T, rfl, rfl, rfl⟩ := List.map_eq_append_iff.mp e.symm
    exact ⟨S ++ x :: T, by simp, List.perm_middle.trans (k.cons x)⟩
/-- the values of a set of tuples, in whatever order -/
theorem one_addr {P : Program} {w : World} {h : Heap} {a : Addr} {L : List (Addr × List Int)} {es : Array (Int × Value)} {ep : Nat} {t : SetTable} (R : SetTR P w h a L es ep t) {vs : List Value} (pm : vs.Perm (es.toList.map (·.2))) :
    ∃ K : List (Addr × List Int), vs = K.map (fun z => Value.ref z.1) ∧ K.Perm L := by
  have vals : es.toList.map (·.2) = L.map fun z => Value.ref z.1 := by
    rw [R.rows, rowsOf, List.map_map]
    rfl
  exact perm_of_map (vals ▸ pm)
theorem cr_sortSetB (hc : X.calm = true) (hu : X.A.units + 64 < cLine) : CallR X (.builtin "sorted") (rSortSetB X.K X.prog X.w) := by
  rintro pins s σ H vs us Q I r ⟨a, L, rfl, ha, hk, q⟩
  rw [Vals.ref1 r]
  have made : SetT0 X.prog X.w s.heap a L := (I.hok _ _ ha).1
  obtain ⟨es, ep, t, R⟩ := made.full fun z m => I.isT (hk z m)
  obtain ⟨ob, gob, exact', dob⟩ := R.ob
  have size := R.size
  have few := R.few
  apply Calls.call_function_entry kind_sorted plain_sorted entry_sorted (args_sorted1 _)
  rw [Builtin.«sorted»]
  apply wpAny_bind
  refine wpAny_pure ?_
  apply wpAny_bind
  refine collect_set (A := X.A.in1) (I.ok.hd hc) ⟨ob, gob, exact'.1, dob⟩ R.fits (by unfold scanBound; omega) R.tab.ris R.led fun s1 vs k1 above g1 o1 pm => ?_
  obtain ⟨K, rfl, pK⟩ := one_addr R pm
  have e : PySem.W.EachIs (fun (u : Value) (z : Addr × List Int) => RelV (V.ref z.1) u) (K.map fun z => Value.ref z.1) K := each_vals (fun z : Addr × List Int => V.ref z.1) (vals_of_refs K)
  have er := each_with (G := fun (u : Value) (z : Addr × List Int) => ∃ as, Reads s.heap u (EvR.encB (fun z : Addr × List Int => z.2) z) as) e fun u z m ru => Dp.reads I _ (V.ref z.1) u (.tup (hk z (pK.mem_iff.mp m)) (dp_ints _)) ru
  have lenK : K.length < 64 := pK.length_eq ▸ few
  refine EvR.sorted_tail (A := X.A.in1) (s := s1) (h0 := s.heap) (R := fun u (z : Addr × List Int) => RelV (V.ref z.1) u) (enc := EvR.encB fun z : Addr × List Int => z.2) k1 e er (PySem.W.AllAlike.of fun z z' => ?_) (fun z => ⟨_, rfl⟩) (by rw [sizeLine_eq]; omega) (fun z _ => ?_) fun out h' c hn hout k hg => ?_
  · simp [EvR.encB, PySem.W.alike, PySem.W.alike_ints]
  · rw [EvR.depthB]
    exact Nat.lt_of_le_of_lt (by show X.A.units + 1 + 1 + 1 ≤ X.A.units + 64; omega) hu
  · have inOrder := EvR.sortB_pw (fun z : Addr × List Int => z.2) K
    have pS := List.mergeSort_perm K (PySem.W.dataLe false (EvR.encB fun z : Addr × List Int => z.2))
    generalize K.mergeSort (PySem.W.dataLe false (EvR.encB fun z : Addr × List Int => z.2)) = S at hout pS inOrder
    have free : H s1.heap.objs.size = none := I.hok.fresh above
    have lenS : (S.map fun z => V.ref z.1).length ≤ sizeLine := by rw [List.length_map, sizeLine_eq, pS.length_eq]; omega
    have kept : ∀ b o, s.heap.get? b = some o → h'.get? b = some o := fun b o g => k b o (k1 b o g)
    have J : Inv X pins σ (upd H s1.heap.objs.size (.lst (S.map fun z => V.ref z.1))) { s with heap := h', gens := s1.gens, drawn := s1.drawn, toks := s1.toks } :=
      I.call (ch := []) (Un.laid kept above free) (I.hok.laid kept above ⟨lenS, out, c, vals_each _ hout, hg⟩) (by rw [g1]; exact I.bare) (fun _ z => nomatch z)
    have same : { s1 with heap := h' } = ({ s with heap := h', gens := s1.gens, drawn := s1.drawn, toks := s1.toks } : Shared) := by
      rcases s1 with ⟨⟩
      rcases s with ⟨⟩
      rcases o1 with ⟨⟩
      rfl
    rw [same]
    exact ⟨.ref _, _, J, rfl, q S _ (pS.trans pK) (((pS.trans pK).map (·.2)).nodup_iff.mpr R.nd) inOrder free⟩
end
end L2
-- part EvRules4
namespace L2
open PySem PySem.Spec PyProof.Rows
/-- a dict's entry: a tuple of ints, an int -/
abbrev entI (e : List Int × Int) : List L2.Key × V := (e.1.map Sum.inl, V.int e.2)
theorem map_kV (ns : List Int) : (ns.map (Sum.inl : Int → L2.Key)).map kV = ns.map V.int := by
  rw [List.map_map]
  rfl
theorem each_of_get {α β : Type} {R : α → β → Prop} {as : List α} {bs : List β} (len : as.length = bs.length) (k : ∀ (i : Nat) x y, as[i]? = some x → bs[i]? = some y → R x y) : PySem.W.EachIs R as bs := by
  induction as generalizing bs with
  | nil =>
    cases List.eq_nil_of_length_eq_zero len.symm
    exact .nil
  | cons x as ih =>
    cases bs with
    | nil => exact nomatch len
    | cons y bs => exact .cons (k 0 x y rfl rfl) (ih (Nat.succ.inj len) fun i u v hu hv => k (i + 1) u v hu hv)
section
variable {X : Cx}
/-- sorted(d.items()), d's keys tuples of ints, its values ints -/
def rSortItB : List V → Hp → VK → Prop := fun vs H Q => ∃ (p a : Addr) (ks : List (List Int × Int)), vs = [.ref p] ∧ H p = some (DX.itemsO p a) ∧ H a = some (.dT (ks.map entI)) ∧ ks.length ≤ 1000 ∧
  ∀ (H' : Hp) (l : Addr) (ps : List (Addr × List Int × Int)), (∀ b o, H b = some o → H' b = some o) → H l = none → (ps.map (·.2)).Perm ks → (ps.map (·.2)).Pairwise (fun e f => e.1 ≤ f.1) → H' l = some (.lst (ps.map fun z => V.ref z.1)) →
    (∀ z ∈ ps, ∃ q, H' z.1 = some (.tup [.ref q, .int z.2.2]) ∧ H' q = some (.tup (z.2.1.map V.int))) → Q (.ref l) H'
/-- the pair that was made of the j-th entry -/
theorem pair_made {H : Hp} {h' : Heap} {lo b : Addr} {j : Nat} {as : List Addr} {prog : Program} {w : World} {knd : HeapKind prog w (List L2.Key)} {ks : List (List Int × Int)} {xs : List (List L2.Key × Addr × Value)} {es : Array DictEntry} (rel : KT H (ks.map entI) xs) (rows : es.toList = xs.map (entryOfKey knd))
    (made : DT.Made es lo h' as) (at_j : as[j]? = some b) : ∃ (e : List Int × Int) (kq : Addr) (t : Tok), ks[j]? = some e ∧ H kq = some (.tup (e.1.map V.int)) ∧ h'.get? b = some { cls := .type "tuple", data := .seq #[Value.ref kq, Value.int e.2 t] } := by
  obtain ⟨en, at_es, stands⟩ := made.pairs j b at_j
  obtain ⟨x, at_xs, rfl⟩ := Option.map_eq_some_iff.mp ((entry_at rows j).symm.trans at_es)
  obtain ⟨e', at_ks', -, key, val⟩ := DX.pget rel at_xs
  obtain ⟨e, at_ks, rfl⟩ := Option.map_eq_some_iff.mp ((List.getElem?_map ..).symm.trans at_ks')
  obtain ⟨t, val⟩ : ∃ t, x.2.2 = Value.int e.2 t := val
  refine ⟨e, x.2.1, t, at_ks, map_kV e.1 ▸ key, stands.trans ?_⟩
  rw [← val]
  rfl
theorem cr_sortItB (hc : X.calm = true) (hu : X.A.units + 64 < cLine) : CallR X (.builtin "sorted") rSortItB := by
  rintro pins s σ H args us Q I r ⟨p, a, ks, rfl, hp, ha, few, q⟩
  cases Vals.ref1 r
  have view : s.heap.IsItemsView p a := (show ObjOk X.prog X.w H s.heap p (DX.itemsO p a) from I.hok p _ hp).1
  obtain ⟨-, -, xs, rel, ob, es, ep, gob, exact', dob, rows, -, -⟩ := dt_of I.hok ha
  have size : es.size = ks.length := (size_of_entries rows).trans ((Paired.length rel).symm.trans (List.length_map ..))
  have big : (1000 : Nat) ≤ sizeLine := by rw [sizeLine_eq]; omega
  apply DT.sortedI (es := es) (ep := ep) (I.ok.hd hc) view ⟨ob, gob, exact', dob⟩ (size ▸ Nat.le_trans few big)
  intro h' tk as old up len made
  have len' : as.length = ks.length := len.trans size
  have once : as.Nodup := made.rise.imp Nat.ne_of_lt
  have pair := fun {j : Nat} {b : Addr} => pair_made (j := j) (b := b) rel rows made
  have new : (h'.push { cls := .type "list", data := .seq (as.map Value.ref).toArray }).get? h'.objs.size = some (seqObj "list" (as.map Value.ref).toArray 0) := Heap.get?_push_size _ rfl
  have free : H h'.objs.size = none := I.hok.fresh (Nat.le_of_lt up)
  have I1 : Inv X pins σ H { s with heap := h', toks := tk } := I.kept (t' := tk) old
  have lenR : (as.map Value.ref).length = (as.zip ks).length := by rw [List.length_map, List.length_zip, len', Nat.min_self]
  -- what the pairs read
  have both : ∀ {i : Nat} {u : Value} {z : Addr × List Int × Int}, (as.map Value.ref)[i]? = some u → (as.zip ks)[i]? = some z → as[i]? = some z.1 ∧ ks[i]? = some z.2 ∧ u = .ref z.1 := fun {i u z} hu' hz' => by
    obtain ⟨z1, z2⟩ := List.getElem?_zip_eq_some.mp hz'
    rw [List.getElem?_map, z1] at hu'
    exact ⟨z1, z2, (Option.some.inj hu').symm⟩
  have e : PySem.W.EachIs (fun (u : Value) (z : Addr × List Int × Int) => RelV (V.ref z.1) u) (as.map Value.ref) (as.zip ks) := each_of_get lenR fun i u z h1 h2 => (both h1 h2).2.2
  have er : PySem.W.EachIs (fun (u : Value) (z : Addr × List Int × Int) => ∃ as, Reads h' u (EvR.encE (fun z : Addr × List Int × Int => z.2) z) as) (as.map Value.ref) (as.zip ks) := each_of_get lenR fun i u z h1 h2 => by
    obtain ⟨z1, z2, rfl⟩ := both h1 h2
    obtain ⟨en, kq, t, at_ks, key, stands⟩ := pair z1
    cases Option.some.inj (at_ks.symm.trans z2)
    obtain ⟨read, r1⟩ := Dp.reads I1 (.tuple (z.2.1.map .int)) (V.ref kq) (Value.ref kq) (.tup (SqT.of key) (dp_ints _)) rfl
    exact ⟨_, Reads.tuple stands rfl rfl (.cons r1 (.cons (.int _ t) .nil))⟩
  refine wpAny_call_entry slot_list_sort ⟨_, new, rfl⟩ entry_list_sort ?_ (args_list_sort _)
  refine EvR.sort_tups_at (s := { s with heap := h'.push { cls := .type "list", data := .seq (as.map Value.ref).toArray }, toks := tk }) (h0 := h') (R := fun u (z : Addr × List Int × Int) => RelV (V.ref z.1) u) (enc := EvR.encE fun z : Addr × List Int × Int => z.2) new
    (fun b o g => ⟨Nat.ne_of_lt (Heap.lt_size g), Heap.get?_push_of_some _ g⟩) e er (PySem.W.AllAlike.of fun z z' => ?_) (fun z => ⟨_, rfl⟩) (lenR ▸ (List.length_map _).symm ▸ len' ▸ Nat.le_trans few big) (fun z _ => ?_) fun out _ ho => ⟨.none, rfl, ?_⟩
  · simp [EvR.encE, PySem.W.alike, PySem.W.alikeAll, PySem.W.alike_ints]
  · rw [EvR.depthE]
    exact Nat.lt_of_le_of_lt (by show X.A.units + 1 + 1 + 2 ≤ X.A.units + 64; omega) hu
  · have perm := List.mergeSort_perm (as.zip ks) (PySem.W.dataLe false (EvR.encE fun z : Addr × List Int × Int => z.2))
    have inOrder := EvR.sortE_pw (fun z : Addr × List Int × Int => z.2) (as.zip ks)
    generalize (as.zip ks).mergeSort (PySem.W.dataLe false (EvR.encE fun z : Addr × List Int × Int => z.2)) = zs at ho perm inOrder
    have place : ∀ z ∈ zs, ∃ i : Nat, as[i]? = some z.1 ∧ ks[i]? = some z.2 := fun z m => by
      obtain ⟨i, hi⟩ := List.mem_iff_getElem?.mp (perm.mem_iff.mp m)
      exact ⟨i, List.getElem?_zip_eq_some.mp hi⟩
    have permK : (zs.map (·.2)).Perm ks := (perm.map (·.2)).trans (.of_eq (List.map_snd_zip (Nat.le_of_eq len'.symm)))
    have lenZ : (zs.map fun z => V.ref z.1).length ≤ sizeLine := by
      have := permK.length_eq
      simp only [List.length_map] at this ⊢
      exact Nat.le_trans (this ▸ few) big
    obtain ⟨c, stands⟩ := sortedHeap_at (vs := as.map Value.ref) (out := out.toArray) new
    have stay : ∀ b o, h'.get? b = some o → (sortedHeap (h'.push { cls := .type "list", data := .seq (as.map Value.ref).toArray }) h'.objs.size (as.map Value.ref) out.toArray).get? b = some o := fun b o g => by
      have g' : (h'.push { cls := .type "list", data := .seq (as.map Value.ref).toArray }).get? b = some o := Heap.get?_push_of_some _ g
      exact (sortedHeap_old (Nat.ne_of_lt (Heap.lt_size g)) (Heap.lt_size g')).trans g'
    show EP X pins σ Q (.ref h'.objs.size) { s with heap := sortedHeap (h'.push { cls := .type "list", data := .seq (as.map Value.ref).toArray }) h'.objs.size (as.map Value.ref) out.toArray, toks := tk }
    generalize sortedHeap (h'.push { cls := .type "list", data := .seq (as.map Value.ref).toArray }) h'.objs.size (as.map Value.ref) out.toArray = h2 at stay stands ⊢
    have I2 : Inv X pins σ H { s with heap := h2, toks := tk } := I.kept (t' := tk) fun b o g => stay b o (old b o g)
    have I3 : Inv X pins σ (upd H h'.objs.size (.lst (zs.map fun z => V.ref z.1))) { s with heap := h2, toks := tk } :=
      I2.take (h' := h2) (t' := tk) (fun b _ _ g => g) (I.fpOk (Nat.le_of_lt up) free) ⟨lenZ, out, c, vals_each _ ho, stands⟩
    obtain ⟨H2, I4, more, tups⟩ := DX.takeT (P := fun b vs => ∃ (j : Nat) (en : List Int × Int) (kq : Addr), as[j]? = some b ∧ ks[j]? = some en ∧ vs = [.ref kq, .int en.2] ∧ H kq = some (.tup (en.1.map V.int))) I as _ I3 once fun b m => by
      obtain ⟨j, at_j⟩ := List.mem_iff_getElem?.mp m
      obtain ⟨en, kq, t, at_ks, key, gb⟩ := pair at_j
      have above : s.heap.objs.size ≤ b := Nat.le_of_lt (made.above b m)
      exact ⟨above, (upd_ne (Nat.ne_of_lt (Heap.lt_size gb))).trans (I.hok.fresh above), _, ⟨j, en, kq, at_j, at_ks, rfl, key⟩, fun _ => ⟨Nat.le_trans (show 2 ≤ 1000 by decide) big, [Value.ref kq, Value.int en.2 t], .cons rfl (.cons ⟨t, rfl⟩ .nil), _, stay _ _ gb, rfl, 0, rfl⟩⟩
    have grow : ∀ b o, H b = some o → H2 b = some o := fun b o g => more b o ((upd_ne (ne_of_none g free)).trans g)
    refine ⟨.ref h'.objs.size, H2, I4, rfl, q H2 h'.objs.size zs grow free permK (List.pairwise_map.mpr inOrder) (more _ _ upd_same) fun z m => ?_⟩
    obtain ⟨i, at_i, at_k⟩ := place z m
    obtain ⟨_, ⟨j, en, kq, at_j, at_k', rfl, key⟩, there⟩ := tups z.1 (List.mem_of_getElem? at_i)
    cases (List.getElem?_inj (List.getElem?_eq_some_iff.mp at_i).1 once).mp (at_i.trans at_j.symm)
    cases Option.some.inj (at_k'.symm.trans at_k)
    exact ⟨kq, there, grow _ _ key⟩
end
end L2
-- part EvCalc
/-! Readings told by data: what an expression gives, where each slot holds the data that a list tells. -/
namespace EvW
open PySem L2
abbrev PD := PyData
/-! ### heaps -/
/-- what stands in G stands in H, too -/
def Ex (G H : Hp) : Prop := ∀ (b : Addr) (u : HO), G b = some u → H b = some u
theorem Ex.refl (G : Hp) : Ex G G := fun _ _ => id
theorem Ex.trans {G H K : Hp} (f : Ex G H) (g : Ex H K) : Ex G K := fun b u => g b u ∘ f b u
theorem Ex.mut {G H : Hp} {p : Addr} {u : HO} (f : Ex G H) (free : G p = none) : Ex G (upd H p u) := fun b x at_b => (upd_ne (ne_of_none at_b free)).trans (f b x at_b)
theorem Ex.new {G : Hp} {p : Addr} {u : HO} (free : G p = none) : Ex G (upd G p u) := (Ex.refl G).mut free
theorem Ex.back {H H' : Hp} {p : Addr} (e : Ex H H') (h : H' p = none) : H p = none := by
  cases h1 : H p with
  | none => rfl
  | some o =>
    rw [e p o h1] at h
    cases h
def hide (F : Addr → Bool) (H : Hp) : Hp := fun a => if F a = true then none else H a
/-- what is hidden is there, and is no tuple -/
def Fok (F : Addr → Bool) (H : Hp) : Prop := ∀ a, F a = true → ∃ x, H a = some x ∧ ∀ xs, x ≠ .tup xs
section
variable {F : Addr → Bool} {H H' : Hp} {p a : Addr} {o : HO}
theorem hide_no (h : F a = false) : hide F H a = H a := by unfold hide; rw [h, if_neg Bool.false_ne_true]
theorem hide_some (h : hide F H a = some o) : F a = false ∧ H a = some o := by
  unfold hide at h
  cases e : F a with
  | true => rw [e, if_pos rfl] at h; cases h
  | false => rw [e, if_neg Bool.false_ne_true] at h; exact ⟨rfl, h⟩
theorem hide_in : Ex (hide F H) H := fun a o h => (hide_some h).2
theorem hide_ex (e : Ex H H') : Ex (hide F H) (hide F H') := fun a o h => by
  obtain ⟨h1, h2⟩ := hide_some h
  rw [hide_no h1]
  exact e a o h2
theorem Fok.ex (f : Fok F H) (e : Ex H H') : Fok F H' := fun a h => by
  obtain ⟨x, h1, h2⟩ := f a h
  exact ⟨x, e a x h1, h2⟩
theorem Fok.tup {xs : List V} (f : Fok F H) (h : H p = some (.tup xs)) : F p = false := by
  cases e : F p with
  | false => rfl
  | true =>
    obtain ⟨x, h1, h2⟩ := f p e
    rw [h] at h1
    exact absurd (Option.some.inj h1).symm (h2 xs)
theorem Fok.no (f : Fok F H) (h : H p = none) : F p = false := by
  cases e : F p with
  | false => rfl
  | true =>
    obtain ⟨x, h1, _⟩ := f p e
    rw [h] at h1
    cases h1
theorem hide_at (f : F p = false) (h : H p = some o) : hide F H p = some o := by rw [hide_no f]; exact h
def F0 : Addr → Bool := fun _ => false
theorem hide_F0 : hide F0 H = H := by
  funext a
  exact hide_no rfl
theorem fok_F0 : Fok F0 H := fun a h => by cases h
/-- one more address hidden -/
def add (F : Addr → Bool) (p : Addr) : Addr → Bool := fun a => F a || decide (a = p)
theorem add_same : add F p p = true := by unfold add; simp
theorem add_ne (h : a ≠ p) : add F p a = F a := by unfold add; simp [h]
theorem fok_add (f : Fok F H) (h : H p = some o) (ht : ∀ xs, o ≠ .tup xs) : Fok (add F p) H := fun a ha => by
  by_cases e : a = p
  · rw [e]; exact ⟨o, h, ht⟩
  · rw [add_ne e] at ha; exact f a ha
theorem hide_add_upd {o : HO} : hide (add F p) (upd H p o) = hide (add F p) H := by
  funext a
  unfold hide
  by_cases e : a = p
  · rw [e, add_same, if_pos rfl, if_pos rfl]
  · rw [upd_ne e]
theorem hide_add_new (h : H p = none) : hide (add F p) H = hide F H := by
  funext a
  unfold hide
  by_cases e : a = p
  · rw [e, add_same, if_pos rfl]
    split
    · rfl
    · exact h.symm
  · rw [add_ne e]
theorem hide_add_in : Ex (hide (add F p) H) (hide F H) := fun a o h => by
  obtain ⟨h1, h2⟩ := hide_some h
  have : F a = false := by
    unfold add at h1
    rw [Bool.or_eq_false_iff] at h1
    exact h1.1
  rw [hide_no this]
  exact h2
end

/-! ### data told of values -/
mutual
def Rp (H : Hp) : PD → V → Prop
  | .none, v => v = .non
  | .bool b, v => v = .bl b
  | .int i, v => v = .int i
  | .str s, v => v = .str s
  | .list ds, v => ∃ a xs, v = .ref a ∧ H a = some (.lst xs) ∧ RpA H ds xs
  | .tuple ds, v => ∃ a xs, v = .ref a ∧ H a = some (.tup xs) ∧ RpA H ds xs
  | .dict _, _ => False
def RpA (H : Hp) : List PD → List V → Prop
  | [], xs => xs = []
  | d :: ds, xs => ∃ x r, xs = x :: r ∧ Rp H d x ∧ RpA H ds r
end
mutual
theorem Rp.ex {H H' : Hp} (e : Ex H H') : ∀ {d : PD} {v : V}, Rp H d v → Rp H' d v
  | .none, _, h => by simpa [Rp] using h
  | .bool _, _, h => by simpa [Rp] using h
  | .int _, _, h => by simpa [Rp] using h
  | .str _, _, h => by simpa [Rp] using h
  | .list ds, v, h => by
    rw [Rp] at h ⊢
    obtain ⟨a, xs, e1, e2, e3⟩ := h
    exact ⟨a, xs, e1, e a _ e2, RpA.ex e e3⟩
  | .tuple ds, v, h => by
    rw [Rp] at h ⊢
    obtain ⟨a, xs, e1, e2, e3⟩ := h
    exact ⟨a, xs, e1, e a _ e2, RpA.ex e e3⟩
  | .dict _, _, h => by rw [Rp] at h; exact h.elim
theorem RpA.ex {H H' : Hp} (e : Ex H H') : ∀ {ds : List PD} {xs : List V}, RpA H ds xs → RpA H' ds xs
  | [], _, h => by rw [RpA] at h ⊢; exact h
  | d :: ds, _, h => by
    rw [RpA] at h ⊢
    obtain ⟨x, r, e1, e2, e3⟩ := h
    exact ⟨x, r, e1, Rp.ex e e2, RpA.ex e e3⟩
end
mutual
theorem Rp.dp {K : PySem.W.Frag} {H : Hp} : ∀ {d : PD} {v : V}, Rp H d v → Dp K H v d
  | .none, _, h => by rw [Rp] at h; subst h; exact .non
  | .bool _, _, h => by rw [Rp] at h; subst h; exact .bl _
  | .int _, _, h => by rw [Rp] at h; subst h; exact .int _
  | .str _, _, h => by rw [Rp] at h; subst h; exact .str _
  | .list ds, v, h => by
    rw [Rp] at h
    obtain ⟨a, xs, rfl, e2, e3⟩ := h
    exact .lst (SqL.of e2) (RpA.dp e3)
  | .tuple ds, v, h => by
    rw [Rp] at h
    obtain ⟨a, xs, rfl, e2, e3⟩ := h
    exact .tup (SqT.of e2) (RpA.dp e3)
  | .dict _, _, h => by rw [Rp] at h; exact h.elim
theorem RpA.dp {K : PySem.W.Frag} {H : Hp} : ∀ {ds : List PD} {xs : List V}, RpA H ds xs → DpAll K H xs ds
  | [], _, h => by rw [RpA] at h; subst h; exact .nil
  | d :: ds, _, h => by
    rw [RpA] at h
    obtain ⟨x, r, rfl, e2, e3⟩ := h
    exact .cons (Rp.dp e2) (RpA.dp e3)
end
section
variable {H : Hp}
theorem rp_int {i : Int} {v : V} : Rp H (.int i) v ↔ v = .int i := by rw [Rp]
theorem rp_bool {i : Bool} {v : V} : Rp H (.bool i) v ↔ v = .bl i := by rw [Rp]
theorem rp_str {i : Str} {v : V} : Rp H (.str i) v ↔ v = .str i := by rw [Rp]
theorem rp_none {v : V} : Rp H .none v ↔ v = .non := by rw [Rp]
theorem rp_list {ds : List PD} {v : V} : Rp H (.list ds) v ↔ ∃ a xs, v = .ref a ∧ H a = some (.lst xs) ∧ RpA H ds xs := by rw [Rp]
theorem rp_tup {ds : List PD} {v : V} : Rp H (.tuple ds) v ↔ ∃ a xs, v = .ref a ∧ H a = some (.tup xs) ∧ RpA H ds xs := by rw [Rp]
theorem rpa_nil {xs : List V} : RpA H [] xs ↔ xs = [] := by rw [RpA]
theorem rpa_cons {d : PD} {ds : List PD} {xs : List V} : RpA H (d :: ds) xs ↔ ∃ x r, xs = x :: r ∧ Rp H d x ∧ RpA H ds r := by rw [RpA]
theorem RpA.len : ∀ {ds : List PD} {xs : List V}, RpA H ds xs → xs.length = ds.length
  | [], _, h => by rw [rpa_nil.mp h]; rfl
  | d :: ds, _, h => by
    obtain ⟨x, r, rfl, _, h3⟩ := rpa_cons.mp h
    rw [List.length_cons, List.length_cons, RpA.len h3]
theorem RpA.get : ∀ {ds : List PD} {xs : List V} {i : Nat} {d : PD}, RpA H ds xs → ds[i]? = some d → ∃ x, xs[i]? = some x ∧ Rp H d x
  | [], _, _, _, _, h => nomatch h
  | d0 :: ds, _, 0, d, h, hd => by
    obtain ⟨x, r, rfl, h2, _⟩ := rpa_cons.mp h
    have e : d0 = d := by simpa using hd
    exact ⟨x, rfl, e ▸ h2⟩
  | d0 :: ds, _, i + 1, d, h, hd => by
    obtain ⟨x, r, rfl, _, h3⟩ := rpa_cons.mp h
    obtain ⟨y, h4, h5⟩ := RpA.get (i := i) h3 (by simpa using hd)
    exact ⟨y, by simpa using h4, h5⟩
theorem RpA.get' {ds : List PD} {xs : List V} {i : Nat} {x : V} (h : RpA H ds xs) (hx : xs[i]? = some x) : ∃ d, ds[i]? = some d ∧ Rp H d x := by
  have hl := h.len
  have hi := (List.getElem?_eq_some_iff.mp hx).1
  have hd : ds[i]? = some ds[i] := List.getElem?_eq_getElem (by omega)
  obtain ⟨y, h1, h2⟩ := h.get hd
  rw [hx] at h1
  cases h1
  exact ⟨_, hd, h2⟩
theorem RpA.snoc : ∀ {ds : List PD} {xs : List V} {d : PD} {x : V}, RpA H ds xs → Rp H d x → RpA H (ds ++ [d]) (xs ++ [x])
  | [], _, d, x, h, hx => by
    rw [rpa_nil.mp h]
    exact rpa_cons.mpr ⟨x, [], rfl, hx, rpa_nil.mpr rfl⟩
  | d0 :: ds, _, d, x, h, hx => by
    obtain ⟨y, r, rfl, h2, h3⟩ := rpa_cons.mp h
    exact rpa_cons.mpr ⟨y, _, rfl, h2, RpA.snoc h3 hx⟩
theorem RpA.append : ∀ {ds es : List PD} {xs ys : List V}, RpA H ds xs → RpA H es ys → RpA H (ds ++ es) (xs ++ ys)
  | [], _, _, _, h, hy => by
    rw [rpa_nil.mp h]
    exact hy
  | d0 :: ds, _, _, _, h, hy => by
    obtain ⟨y, r, rfl, h2, h3⟩ := rpa_cons.mp h
    exact rpa_cons.mpr ⟨y, _, rfl, h2, RpA.append h3 hy⟩
theorem RpA.reverse : ∀ {ds : List PD} {xs : List V}, RpA H ds xs → RpA H ds.reverse xs.reverse
  | [], _, h => by rw [rpa_nil.mp h]; exact rpa_nil.mpr rfl
  | d :: ds, _, h => by
    obtain ⟨x, r, rfl, h2, h3⟩ := rpa_cons.mp h
    simp only [List.reverse_cons]
    exact RpA.snoc (RpA.reverse h3) h2
theorem RpA.drop : ∀ {ds : List PD} {xs : List V} (k : Nat), RpA H ds xs → RpA H (ds.drop k) (xs.drop k)
  | _, _, 0, h => h
  | [], _, k + 1, h => by rw [rpa_nil.mp h]; exact rpa_nil.mpr rfl
  | d :: ds, _, k + 1, h => by
    obtain ⟨x, r, rfl, h2, h3⟩ := rpa_cons.mp h
    exact RpA.drop k h3
theorem rpa_ints : ∀ {ns : List Int} {xs : List V}, RpA H (ns.map .int) xs ↔ xs = ns.map V.int
  | [], _ => rpa_nil
  | n :: ns, xs => by
    rw [List.map_cons, List.map_cons, rpa_cons]
    constructor
    · rintro ⟨x, r, rfl, h1, h2⟩
      rw [rp_int.mp h1, rpa_ints.mp h2]
    · rintro rfl
      exact ⟨_, _, rfl, rp_int.mpr rfl, rpa_ints.mpr rfl⟩
theorem rpa_bools : ∀ {ns : List Bool} {xs : List V}, RpA H (ns.map .bool) xs ↔ xs = ns.map V.bl
  | [], _ => rpa_nil
  | n :: ns, xs => by
    rw [List.map_cons, List.map_cons, rpa_cons]
    constructor
    · rintro ⟨x, r, rfl, h1, h2⟩
      rw [rp_bool.mp h1, rpa_bools.mp h2]
    · rintro rfl
      exact ⟨_, _, rfl, rp_bool.mpr rfl, rpa_bools.mpr rfl⟩
/-- a list of ints, a tuple of ints -/
abbrev dL (ns : List Int) : PD := .list (ns.map .int)
abbrev dT (ns : List Int) : PD := .tuple (ns.map .int)
theorem rp_dL {ns : List Int} {v : V} : Rp H (dL ns) v ↔ ∃ a, v = .ref a ∧ H a = some (.lst (ns.map V.int)) := by
  rw [rp_list]
  constructor
  · rintro ⟨a, xs, e1, e2, e3⟩
    exact ⟨a, e1, by rw [e2, rpa_ints.mp e3]⟩
  · rintro ⟨a, e1, e2⟩
    exact ⟨a, _, e1, e2, rpa_ints.mpr rfl⟩
theorem rp_dT {ns : List Int} {v : V} : Rp H (dT ns) v ↔ ∃ a, v = .ref a ∧ H a = some (.tup (ns.map V.int)) := by
  rw [rp_tup]
  constructor
  · rintro ⟨a, xs, e1, e2, e3⟩
    exact ⟨a, e1, by rw [e2, rpa_ints.mp e3]⟩
  · rintro ⟨a, e1, e2⟩
    exact ⟨a, _, e1, e2, rpa_ints.mpr rfl⟩
end

/-! ### slots -/
abbrev Ctx := List (Option PD)
def Env (H : Hp) (σ : L2.St) (Γ : Ctx) : Prop := σ.length = Γ.length ∧ ∀ (i : Nat) (d : PD), Γ[i]? = some (some d) → ∃ v, σ[i]? = some (some v) ∧ Rp H d v
section
variable {H H' : Hp} {σ : L2.St} {Γ : Ctx}
theorem Env.ex (h : Env H σ Γ) (e : Ex H H') : Env H' σ Γ := ⟨h.1, fun i d hi => by
  obtain ⟨v, h1, h2⟩ := h.2 i d hi
  exact ⟨v, h1, h2.ex e⟩⟩
theorem Env.set {i : Nat} {d : PD} {v : V} (h : Env H σ Γ) (r : Rp H d v) : Env H (σ.set i (some v)) (Γ.set i (some d)) := ⟨by rw [List.length_set, List.length_set]; exact h.1, fun j d' hj => by
  rw [List.getElem?_set] at hj ⊢
  by_cases e : i = j
  · rw [if_pos e] at hj ⊢
    by_cases l : j < Γ.length
    · rw [if_pos (by omega)] at hj
      rw [if_pos (by rw [h.1]; omega)]
      cases hj
      exact ⟨v, rfl, r⟩
    · rw [if_neg (by omega)] at hj; cases hj
  · rw [if_neg e] at hj ⊢
    exact h.2 j d' hj⟩
theorem Env.drop {i : Nat} (h : Env H σ Γ) (x : Option V) : Env H (σ.set i x) (Γ.set i none) := ⟨by rw [List.length_set, List.length_set]; exact h.1, fun j d' hj => by
  rw [List.getElem?_set] at hj ⊢
  by_cases e : i = j
  · rw [if_pos e] at hj
    split at hj <;> cases hj
  · rw [if_neg e] at hj ⊢
    exact h.2 j d' hj⟩
/-- less known -/
theorem Env.less {i : Nat} (h : Env H σ Γ) : Env H σ (Γ.set i none) := ⟨by rw [List.length_set]; exact h.1, fun j d' hj => by
  rw [List.getElem?_set] at hj
  by_cases e : i = j
  · rw [if_pos e] at hj
    split at hj <;> cases hj
  · rw [if_neg e] at hj
    exact h.2 j d' hj⟩
theorem Env.weak {Δ : Ctx} (h : Env H σ Γ) (hl : Δ.length = Γ.length) (hk : ∀ (i : Nat) (d : PD), Δ[i]? = some (some d) → Γ[i]? = some (some d)) : Env H σ Δ := ⟨h.1.trans hl.symm, fun i d hi => h.2 i d (hk i d hi)⟩
theorem env_start {N : List Str} {ds : List PD} {vs : List V} (h : RpA H ds vs) : Env H (L2.start N vs) (ds.map some ++ List.replicate (N.length - ds.length) none) := by
  have hl := h.len
  refine ⟨?_, fun i d hi => ?_⟩
  · unfold L2.start
    simp [hl]
  · by_cases c : i < ds.length
    · rw [List.getElem?_append_left (by simpa using c), List.getElem?_map] at hi
      cases hq : ds[i]? with
      | none => rw [hq] at hi; cases hi
      | some d' =>
        rw [hq] at hi
        cases hi
        obtain ⟨x, h1, h2⟩ := h.get hq
        refine ⟨x, ?_, h2⟩
        unfold L2.start
        rw [List.getElem?_append_left (by simp; omega), List.getElem?_map, h1]
        rfl
    · rw [List.getElem?_append_right (by simp; omega), List.getElem?_replicate] at hi
      split at hi <;> cases hi
end

/-! ### what expressions give -/
def Gv (te : TE) (Γ : Ctx) (d : PD) : Prop := ∀ (σ : L2.St) (H : Hp) (F : Addr → Bool), Fok F H → Env (hide F H) σ Γ → ∀ Q : VK, (∀ v H2, Ex H H2 → Rp (hide F H2) d v → Q v H2) → te σ H Q
def Gt (tt : TT) (Γ : Ctx) (b : Bool) : Prop := ∀ (σ : L2.St) (H : Hp) (F : Addr → Bool), Fok F H → Env (hide F H) σ Γ → ∀ Q : Bool → Hp → Prop, (∀ H2, Ex H H2 → Q b H2) → tt σ H Q
def Ga (ta : TA) (Γ : Ctx) (ds : List PD) : Prop := ∀ (σ : L2.St) (H : Hp) (F : Addr → Bool), Fok F H → Env (hide F H) σ Γ → ∀ Q : List V → Hp → Prop, (∀ vs H2, Ex H H2 → RpA (hide F H2) ds vs → Q vs H2) → ta σ H Q
def Gr2 (r : R2) (x y z : PD) : Prop := ∀ (H : Hp) (F : Addr → Bool), Fok F H → ∀ v u, Rp (hide F H) x v → Rp (hide F H) y u → ∀ Q : VK, (∀ w H2, Ex H H2 → Rp (hide F H2) z w → Q w H2) → r v u H Q
def Grc (r : List V → Hp → VK → Prop) (ds : List PD) (z : PD) : Prop := ∀ (H : Hp) (F : Addr → Bool), Fok F H → ∀ vs, RpA (hide F H) ds vs → ∀ Q : VK, (∀ w H2, Ex H H2 → Rp (hide F H2) z w → Q w H2) → r vs H Q
/-- a def's promise, by data -/
def spD (Pre : List PD → PD → Prop) : Sp := fun vs H Q _ => ∃ (F : Addr → Bool) (ds : List PD) (d : PD), Fok F H ∧ RpA (hide F H) ds vs ∧ Pre ds d ∧ ∀ v H', Ex H H' → Rp (hide F H') d v → Q v H'
section
variable {K : PySem.W.Frag} {Γ : Ctx} {ta tb tc te : TE} {t u : TT} {x y z d : PD} {r : R2} {ds : List PD}
theorem gv_is {d' : PD} (h : Gv te Γ d) (e : d = d') : Gv te Γ d' := e ▸ h
theorem gt_is {b b' : Bool} (h : Gt t Γ b) (e : b = b') : Gt t Γ b' := e ▸ h
theorem gv_var {i : Nat} (h : Γ[i]? = some (some d)) : Gv (tVar i) Γ d := fun σ H F f e Q q => by
  obtain ⟨v, h1, h2⟩ := e.2 i d h
  exact ⟨v, h1, q v H (Ex.refl H) h2⟩
theorem gv_int {i : Int} : Gv (tC (.int i)) Γ (.int i) := fun σ H F f e Q q => q _ H (Ex.refl H) (rp_int.mpr rfl)
theorem gv_bl {i : Bool} : Gv (tC (.bl i)) Γ (.bool i) := fun σ H F f e Q q => q _ H (Ex.refl H) (rp_bool.mpr rfl)
theorem gv_str {i : Str} : Gv (tC (.str i)) Γ (.str i) := fun σ H F f e Q q => q _ H (Ex.refl H) (rp_str.mpr rfl)
theorem gv_op (ha : Gv ta Γ x) (hb : Gv tb Γ y) (hr : Gr2 r x y z) : Gv (tOp r ta tb) Γ z := fun σ H F f e Q q =>
  ha σ H F f e _ fun v H1 e1 r1 => hb σ H1 F (f.ex e1) (e.ex (hide_ex e1)) _ fun u H2 e2 r2 => hr H2 F (f.ex (e1.trans e2)) v u (r1.ex (hide_ex e2)) r2 Q fun w H3 e3 r3 => q w H3 ((e1.trans e2).trans e3) r3
theorem g_I0 {g : Int → Int → Int} {i j : Int} : Gr2 (rI0 fun i j => .int (g i j)) (.int i) (.int j) (.int (g i j)) := fun H F f v u hv hu Q q => ⟨i, j, rp_int.mp hv, rp_int.mp hu, q _ H (Ex.refl H) (rp_int.mpr rfl)⟩
theorem g_I {C : Int → Int → Prop} {g : Int → Int → Int} {i j : Int} (hc : C i j) : Gr2 (rI C fun i j => .int (g i j)) (.int i) (.int j) (.int (g i j)) := fun H F f v u hv hu Q q => ⟨i, j, rp_int.mp hv, rp_int.mp hu, hc, q _ H (Ex.refl H) (rp_int.mpr rfl)⟩
theorem g_B0 {g : Int → Int → Bool} {i j : Int} : Gr2 (rI0 fun i j => .bl (g i j)) (.int i) (.int j) (.bool (g i j)) := fun H F f v u hv hu Q q => ⟨i, j, rp_int.mp hv, rp_int.mp hu, q _ H (Ex.refl H) (rp_bool.mpr rfl)⟩
theorem g_eqI {i j : Int} : Gr2 rEq (.int i) (.int j) (.bool (decide (i = j))) := fun H F f v u hv hu Q q => by
  rw [rp_int.mp hv, rp_int.mp hu]
  refine ⟨rfl, q _ H (Ex.refl H) (rp_bool.mpr ?_)⟩
  congr 1
  exact decide_eq_decide.mpr ⟨fun h => V.int.inj h, fun h => by rw [h]⟩
theorem g_neI {i j : Int} : Gr2 rNe (.int i) (.int j) (.bool (!decide (i = j))) := fun H F f v u hv hu Q q => by
  rw [rp_int.mp hv, rp_int.mp hu]
  refine ⟨rfl, q _ H (Ex.refl H) (rp_bool.mpr ?_)⟩
  congr 2
  exact decide_eq_decide.mpr ⟨fun h => V.int.inj h, fun h => by rw [h]⟩
theorem g_neS {i j : Str} : Gr2 rNe (.str i) (.str j) (.bool (!decide (i = j))) := fun H F f v u hv hu Q q => by
  rw [rp_str.mp hv, rp_str.mp hu]
  refine ⟨rfl, q _ H (Ex.refl H) (rp_bool.mpr ?_)⟩
  congr 2
  exact decide_eq_decide.mpr ⟨fun h => V.str.inj h, fun h => by rw [h]⟩
theorem g_eqD (hx : SeqAt.shaped x = true) (hy : SeqAt.shaped y = true) : Gr2 (rEqD K) x y (.bool (PyData.eqv x y)) := fun H F f v u hv hu Q q => ⟨x, y, (hv.ex hide_in).dp, (hu.ex hide_in).dp, hx, hy, q _ H (Ex.refl H) (rp_bool.mpr rfl)⟩
theorem g_neD (hx : SeqAt.shaped x = true) (hy : SeqAt.shaped y = true) : Gr2 (rNeD K) x y (.bool (!PyData.eqv x y)) := fun H F f v u hv hu Q q => ⟨x, y, (hv.ex hide_in).dp, (hu.ex hide_in).dp, hx, hy, q _ H (Ex.refl H) (rp_bool.mpr rfl)⟩
theorem atI_rpa {H : Hp} {xs : List V} {i : Int} (h : RpA H ds xs) (ha : atI ds i = some d) : ∃ v, atI xs i = some v ∧ Rp H d v := by
  unfold atI at ha ⊢
  rw [h.len]
  cases q : ixN ds.length i with
  | none => rw [q] at ha; cases ha
  | some j =>
    rw [q] at ha
    exact h.get (show ds[j]? = some d from ha)
theorem g_ixL {i : Int} (ha : atI ds i = some d) : Gr2 (rIxL K) (.list ds) (.int i) d := fun H F f v u hv hu Q q => by
  obtain ⟨a, xs, rfl, h1, h2⟩ := rp_list.mp hv
  obtain ⟨w, h3, h4⟩ := atI_rpa h2 ha
  exact ⟨a, xs, i, w, rfl, rp_int.mp hu, SqL.of (hide_in _ _ h1), h3, q w H (Ex.refl H) h4⟩
theorem g_ixT {i : Int} (ha : atI ds i = some d) : Gr2 (rIxT K) (.tuple ds) (.int i) d := fun H F f v u hv hu Q q => by
  obtain ⟨a, xs, rfl, h1, h2⟩ := rp_tup.mp hv
  obtain ⟨w, h3, h4⟩ := atI_rpa h2 ha
  exact ⟨a, xs, i, w, rfl, rp_int.mp hu, SqT.of (hide_in _ _ h1), h3, q w H (Ex.refl H) h4⟩
theorem inV_ints (i : Int) : ∀ ns : List Int, inV (.int i) (ns.map V.int) = decide (i ∈ ns)
  | [] => by simp [inV]
  | n :: ns => by
    have ih := inV_ints i ns
    unfold inV at ih ⊢
    rw [List.map_cons, List.any_cons, ih]
    by_cases e : i = n
    · subst e
      simp [eqV]
    · have : eqV (.int n) (.int i) = false := by
        simp [eqV]
        intro z
        exact e z.symm
      rw [this, Bool.false_or]
      exact decide_eq_decide.mpr ⟨fun h => List.mem_cons_of_mem _ h, fun h => (List.mem_cons.mp h).resolve_left e⟩
theorem flat_ints (ns : List Int) : (ns.map V.int).all flatV = true := by
  rw [List.all_map, List.all_eq_true]
  intro n _
  rfl
theorem g_inT {i : Int} {ns : List Int} : Gr2 (rIn K false) (.int i) (dT ns) (.bool (decide (i ∈ ns))) := fun H F f v u hv hu Q q => by
  obtain ⟨a, rfl, h1⟩ := rp_dT.mp hu
  rw [rp_int.mp hv]
  refine ⟨a, _, rfl, .inr (SqT.of (hide_in _ _ h1)), rfl, flat_ints ns, q _ H (Ex.refl H) (rp_bool.mpr ?_)⟩
  rw [if_neg Bool.false_ne_true, inV_ints]
theorem fresh_hide {F : Addr → Bool} {H : Hp} {p : Addr} {o : HO} (f : Fok F H) (h : H p = none) : hide F (upd H p o) p = some o := hide_at (f.no h) upd_same
theorem g_rep {n : Int} {xs : List Int} (h0 : 0 ≤ n) (h1 : n ≤ 1000) (h2 : xs.length ≤ 1000) : Gr2 rRep (dL xs) (.int n) (dL (List.replicate n.toNat xs).flatten) := fun H F f v u hv hu Q q => by
  obtain ⟨a, rfl, h3⟩ := rp_dL.mp hv
  have hz : xs.length * n.toNat ≤ 1000 * 1000 := Nat.mul_le_mul h2 (by omega)
  refine ⟨a, n, _, rfl, rp_int.mp hu, hide_in _ _ h3, by omega, by omega, by rw [List.length_map, sizeLine_eq]; omega, fun p hp => q _ _ (Ex.new hp) (rp_dL.mpr ⟨p, rfl, ?_⟩)⟩
  rw [fresh_hide f hp, List.map_flatten, List.map_replicate]
theorem rpa_rep {H : Hp} {xs : List V} (h : RpA H ds xs) : ∀ k : Nat, RpA H (List.replicate k ds).flatten (List.replicate k xs).flatten
  | 0 => rpa_nil.mpr rfl
  | k + 1 => by
    simp only [List.replicate_succ, List.flatten_cons]
    exact h.append (rpa_rep h k)
theorem g_repD {n : Int} (h0 : 0 ≤ n) (h1 : n ≤ 1000) (h2 : ds.length ≤ 1000) : Gr2 rRep (.list ds) (.int n) (.list (List.replicate n.toNat ds).flatten) := fun H F f v u hv hu Q q => by
  obtain ⟨a, xs, rfl, h3, h4⟩ := rp_list.mp hv
  have hl := h4.len
  have hz : xs.length * n.toNat ≤ 1000 * 1000 := Nat.mul_le_mul (by omega) (by omega)
  refine ⟨a, n, _, rfl, rp_int.mp hu, hide_in _ _ h3, by omega, by omega, by rw [sizeLine_eq]; omega, fun p hp => q _ _ (Ex.new hp) (rp_list.mpr ⟨p, _, rfl, fresh_hide f hp, ?_⟩)⟩
  exact rpa_rep (h4.ex (hide_ex (Ex.new hp))) _

/-! tests -/
theorem gt_test {b : Bool} (h : Gv te Γ (.bool b)) : Gt (tTest te) Γ b := fun σ H F f e Q q => h σ H F f e _ fun v H2 e2 r => ⟨b, rp_bool.mp r, q H2 e2⟩
theorem gt_B {b : Bool} (h : Gv te Γ (.bool b)) : Gt (tB te) Γ b := fun σ H F f e Q q => h σ H F f e _ fun v H2 e2 r => ⟨b, rp_bool.mp r, q H2 e2⟩
theorem gt_not {b : Bool} (h : Gt t Γ b) : Gt (tNot t) Γ (!b) := fun σ H F f e Q q => h σ H F f e _ fun H2 e2 => q H2 e2
theorem gt_and {a b : Bool} (h1 : Gt t Γ a) (h2 : a = true → Gt u Γ b) : Gt (tAnd t u) Γ (a && b) := fun σ H F f e Q q => h1 σ H F f e _ fun H2 e2 => by
  cases a with
  | true => exact h2 rfl σ H2 F (f.ex e2) (e.ex (hide_ex e2)) Q fun H3 e3 => q H3 (e2.trans e3)
  | false => exact q H2 e2
theorem gt_or {a b : Bool} (h1 : Gt t Γ a) (h2 : a = false → Gt u Γ b) : Gt (tOr t u) Γ (a || b) := fun σ H F f e Q q => h1 σ H F f e _ fun H2 e2 => by
  cases a with
  | true => exact q H2 e2
  | false => exact h2 rfl σ H2 F (f.ex e2) (e.ex (hide_ex e2)) Q fun H3 e3 => q H3 (e2.trans e3)
theorem gv_and {a b : Bool} (h1 : Gv ta Γ (.bool a)) (h2 : a = true → Gv tb Γ (.bool b)) : Gv (tAndV ta tb) Γ (.bool (a && b)) := fun σ H F f e Q q => h1 σ H F f e _ fun v H2 e2 r => by
  refine ⟨a, rp_bool.mp r, ?_⟩
  cases a with
  | true => exact h2 rfl σ H2 F (f.ex e2) (e.ex (hide_ex e2)) Q fun w H3 e3 r3 => q w H3 (e2.trans e3) r3
  | false => exact q _ H2 e2 (rp_bool.mpr rfl)
theorem gv_not {a : Bool} (h1 : Gv ta Γ (.bool a)) : Gv (tNotV ta) Γ (.bool (!a)) := fun σ H F f e Q q => h1 σ H F f e _ fun v H2 e2 r => ⟨a, rp_bool.mp r, q _ H2 e2 (rp_bool.mpr rfl)⟩
/-- a comparison on values -/
def Grb (r : R2) (x y : PD) (b : Bool) : Prop := Gr2 r x y (.bool b)
theorem gv_chain {r' : R2} {b c : Bool} (ha : Gv ta Γ x) (hb : Gv tb Γ y) (hc : Gv tc Γ z) (h1 : Gr2 r x y (.bool b)) (h2 : Gr2 r' y z (.bool c)) : Gv (tChain r r' ta tb tc) Γ (.bool (b && c)) := fun σ H F f e Q q =>
  ha σ H F f e _ fun v H1 e1 r1 => hb σ H1 F (f.ex e1) (e.ex (hide_ex e1)) _ fun u H2 e2 r2 => h1 H2 F (f.ex (e1.trans e2)) v u (r1.ex (hide_ex e2)) r2 _ fun w H3 e3 r3 => by
    have e13 := (e1.trans e2).trans e3
    refine ⟨b, rp_bool.mp r3, ?_⟩
    cases b with
    | true => exact hc σ H3 F (f.ex e13) (e.ex (hide_ex e13)) _ fun w' H4 e4 r4 => h2 H4 F (f.ex (e13.trans e4)) u w' (r2.ex (hide_ex (e3.trans e4))) r4 Q fun w2 H5 e5 r5 => q w2 H5 ((e13.trans e4).trans e5) r5
    | false => exact q _ H3 e13 (rp_bool.mpr rfl)

/-! arguments, displays, calls -/
theorem ga_nil : Ga tNil Γ [] := fun σ H F f e Q q => q [] H (Ex.refl H) (rpa_nil.mpr rfl)
theorem ga_cons {tr : TA} (h : Gv ta Γ x) (hr : Ga tr Γ ds) : Ga (tCons ta tr) Γ (x :: ds) := fun σ H F f e Q q => h σ H F f e _ fun v H1 e1 r1 => hr σ H1 F (f.ex e1) (e.ex (hide_ex e1)) _ fun vs H2 e2 r2 => q _ H2 (e1.trans e2) (rpa_cons.mpr ⟨v, vs, rfl, r1.ex (hide_ex e2), r2⟩)
theorem ga_1 (h : Gv ta Γ x) : Ga (tCons ta tNil) Γ [x] := ga_cons h ga_nil
theorem ga_2 (h : Gv ta Γ x) (h2 : Gv tb Γ y) : Ga (tCons ta (tCons tb tNil)) Γ [x, y] := ga_cons h (ga_1 h2)
theorem ga_3 (h : Gv ta Γ x) (h2 : Gv tb Γ y) (h3 : Gv tc Γ z) : Ga (tCons ta (tCons tb (tCons tc tNil))) Γ [x, y, z] := ga_cons h (ga_2 h2 h3)
theorem gv_tup {t : TA} (h : Ga t Γ ds) (hl : ds.length ≤ 1000) : Gv (tTup t) Γ (.tuple ds) := fun σ H F f e Q q => h σ H F f e _ fun vs H1 e1 r1 => by
  have := r1.len
  exact ⟨by rw [sizeLine_eq]; omega, fun p hp => q _ _ (e1.trans (Ex.new hp)) (rp_tup.mpr ⟨p, vs, rfl, fresh_hide (f.ex e1) hp, r1.ex (hide_ex (Ex.new hp))⟩)⟩
theorem gv_lst {t : TA} (h : Ga t Γ ds) (hl : ds.length ≤ 1000) : Gv (tLst t) Γ (.list ds) := fun σ H F f e Q q => h σ H F f e _ fun vs H1 e1 r1 => by
  have := r1.len
  exact ⟨by rw [sizeLine_eq]; omega, fun p hp => q _ _ (e1.trans (Ex.new hp)) (rp_list.mpr ⟨p, vs, rfl, fresh_hide (f.ex e1) hp, r1.ex (hide_ex (Ex.new hp))⟩)⟩
theorem gv_cb {t : TA} {rc : List V → Hp → VK → Prop} (h : Ga t Γ ds) (hr : Grc rc ds z) : Gv (tCB rc t) Γ z := fun σ H F f e Q q => h σ H F f e _ fun vs H1 e1 r1 => hr H1 F (f.ex e1) vs r1 Q fun w H2 e2 r2 => q w H2 (e1.trans e2) r2
theorem gv_call {t : TA} {Pre : List PD → PD → Prop} {E : XK} (h : Ga t Γ ds) (hp : Pre ds d) : Gv (tCall (spD Pre) [] E t) Γ d := fun σ H F f e Q q => h σ H F f e _ fun vs H1 e1 r1 => by
  rw [List.append_nil]
  exact ⟨F, ds, d, f.ex e1, r1, hp, fun v H2 e2 r2 => q v H2 (e1.trans e2) r2⟩
theorem rpa_one {H : Hp} {vs : List V} : RpA H [x] vs ↔ ∃ v, vs = [v] ∧ Rp H x v := by
  rw [rpa_cons]
  constructor
  · rintro ⟨v, r, rfl, h1, h2⟩
    rw [rpa_nil.mp h2]
    exact ⟨v, rfl, h1⟩
  · rintro ⟨v, rfl, h1⟩
    exact ⟨v, [], rfl, h1, rpa_nil.mpr rfl⟩
theorem rpa_two {H : Hp} {vs : List V} : RpA H [x, y] vs ↔ ∃ v u, vs = [v, u] ∧ Rp H x v ∧ Rp H y u := by
  rw [rpa_cons]
  constructor
  · rintro ⟨v, r, rfl, h1, h2⟩
    obtain ⟨u, rfl, h3⟩ := rpa_one.mp h2
    exact ⟨v, u, rfl, h1, h3⟩
  · rintro ⟨v, u, rfl, h1, h3⟩
    exact ⟨v, [u], rfl, h1, rpa_one.mpr ⟨u, rfl, h3⟩⟩
theorem gc_lenL : Grc (fun xs H Q => ∃ p ys, xs = [V.ref p] ∧ (SqL K H p ys ∨ SqT K H p ys) ∧ Q (.int ys.length) H) [.list ds] (.int ds.length) := fun H F f vs h Q q => by
  obtain ⟨v, rfl, h1⟩ := rpa_one.mp h
  obtain ⟨a, xs, rfl, h2, h3⟩ := rp_list.mp h1
  exact ⟨a, xs, rfl, .inl (SqL.of (hide_in _ _ h2)), q _ H (Ex.refl H) (rp_int.mpr (by rw [h3.len]))⟩
theorem gc_lenT : Grc (fun xs H Q => ∃ p ys, xs = [V.ref p] ∧ (SqL K H p ys ∨ SqT K H p ys) ∧ Q (.int ys.length) H) [.tuple ds] (.int ds.length) := fun H F f vs h Q q => by
  obtain ⟨v, rfl, h1⟩ := rpa_one.mp h
  obtain ⟨a, xs, rfl, h2, h3⟩ := rp_tup.mp h1
  exact ⟨a, xs, rfl, .inr (SqT.of (hide_in _ _ h2)), q _ H (Ex.refl H) (rp_int.mpr (by rw [h3.len]))⟩
theorem gc_tuple : Grc (fun xs H Q => ∃ p ys, xs = [V.ref p] ∧ ((SqL K H p ys ∧ ∀ l, H l = none → Q (.ref l) (upd H l (.tup ys))) ∨ (SqT K H p ys ∧ Q (.ref p) H))) [.list ds] (.tuple ds) := fun H F f vs h Q q => by
  obtain ⟨v, rfl, h1⟩ := rpa_one.mp h
  obtain ⟨a, xs, rfl, h2, h3⟩ := rp_list.mp h1
  exact ⟨a, xs, rfl, .inl ⟨SqL.of (hide_in _ _ h2), fun l hl => q _ _ (Ex.new hl) (rp_tup.mpr ⟨l, xs, rfl, fresh_hide f hl, h3.ex (hide_ex (Ex.new hl))⟩)⟩⟩
theorem gc_sum {ns : List Int} : Grc (rSum K) [dL ns] (.int ns.sum) := fun H F f vs h Q q => by
  obtain ⟨v, rfl, h1⟩ := rpa_one.mp h
  obtain ⟨a, rfl, h2⟩ := rp_dL.mp h1
  exact ⟨a, ns, rfl, SqL.of (hide_in _ _ h2), q _ H (Ex.refl H) (rp_int.mpr rfl)⟩
theorem gc_all {bs : List Bool} : Grc (rAll K) [.list (bs.map .bool)] (.bool (bs.all id)) := fun H F f vs h Q q => by
  obtain ⟨v, rfl, h1⟩ := rpa_one.mp h
  obtain ⟨a, xs, rfl, h2, h3⟩ := rp_list.mp h1
  rw [rpa_bools.mp h3] at h2
  exact ⟨a, bs, rfl, SqL.of (hide_in _ _ h2), q _ H (Ex.refl H) (rp_bool.mpr rfl)⟩
theorem gc_sortI {ns : List Int} (hl : ns.length < 64) : Grc (rSorted K) [dL ns] (dL (Ev.srt ns)) := fun H F f vs h Q q => by
  obtain ⟨v, rfl, h1⟩ := rpa_one.mp h
  obtain ⟨a, rfl, h2⟩ := rp_dL.mp h1
  exact ⟨a, ns, rfl, SqL.of (hide_in _ _ h2), hl, fun ns' p hp hs hn => q _ _ (Ex.new hn) (rp_dL.mpr ⟨p, rfl, by rw [fresh_hide f hn, Ev.srt_uniq hp hs]⟩)⟩
theorem gc_abs {i : Int} : Grc (fun xs H Q => ∃ i, xs = [V.int i] ∧ Q (.int (if i < 0 then -i else i)) H) [.int i] (.int (if i < 0 then -i else i)) := fun H F f vs h Q q => by
  obtain ⟨v, rfl, h1⟩ := rpa_one.mp h
  exact ⟨i, by rw [rp_int.mp h1], q _ H (Ex.refl H) (rp_int.mpr rfl)⟩
theorem gc_intB {k : Bool} : Grc (fun xs H Q => (∃ i, xs = [V.int i] ∧ Q (.int i) H) ∨ ∃ k, xs = [V.bl k] ∧ Q (.int (if k then 1 else 0)) H) [.bool k] (.int (if k then 1 else 0)) := fun H F f vs h Q q => by
  obtain ⟨v, rfl, h1⟩ := rpa_one.mp h
  exact .inr ⟨k, by rw [rp_bool.mp h1], q _ H (Ex.refl H) (rp_int.mpr rfl)⟩
theorem gv_rev (h : Gv te Γ (.list ds)) : Gv (tRevL K te) Γ (.list ds.reverse) := fun σ H F f e Q q => h σ H F f e _ fun v H1 e1 r1 => by
  obtain ⟨a, xs, rfl, h2, h3⟩ := rp_list.mp r1
  exact ⟨a, xs, rfl, SqL.of (hide_in _ _ h2), fun p hp => q _ _ (e1.trans (Ex.new hp)) (rp_list.mpr ⟨p, _, rfl, fresh_hide (f.ex e1) hp, (h3.ex (hide_ex (Ex.new hp))).reverse⟩)⟩
end
end EvW
-- part EvCalc2
namespace EvW
open PySem L2
/-! ### what is walked -/
def Yields (J : It) (Hb : Hp) (ds : List PD) : Prop := ∀ (i : Nat) (H2 : Hp), Ex Hb H2 → (i < ds.length → J.go i H2 ∧ ∀ x H3, J.yld i H2 x H3 → H3 = H2 ∧ ∃ d, ds[i]? = some d ∧ Rp Hb d x) ∧ (ds.length ≤ i → J.stop i H2)
def Gi (wi : TI) (Γ : Ctx) (ds : List PD) : Prop := ∀ (σ : L2.St) (H : Hp) (F : Addr → Bool), Fok F H → Env (hide F H) σ Γ → ∀ R : It → Hp → Prop, (∀ J H1, Ex H H1 → Yields J (hide F H1) ds → R J H1) → wi σ H R
section
variable {K : PySem.W.Frag} {Γ : Ctx} {ta tb te tl : TE} {t u : TT} {x y z d : PD} {ds : List PD}
theorem yields_list {a : Addr} {xs : List V} {Hb : Hp} (h : Hb a = some (.lst xs)) (r : RpA Hb ds xs) : Yields (Itl K a) Hb ds := fun i H2 e => by
  have hl := r.len
  have hs : SqL K H2 a xs := SqL.of (e _ _ h)
  refine ⟨fun hi => ⟨⟨xs, xs[i], hs, List.getElem?_eq_getElem (by omega)⟩, fun x H3 hy => ?_⟩, fun hi => ⟨xs, hs, by omega⟩⟩
  obtain ⟨e3, hy⟩ := hy
  exact ⟨e3, r.get' (hy xs hs)⟩
theorem yields_tup {a : Addr} {xs : List V} {Hb : Hp} (h : Hb a = some (.tup xs)) (r : RpA Hb ds xs) : Yields (Itt K a) Hb ds := fun i H2 e => by
  have hl := r.len
  have hs : SqT K H2 a xs := SqT.of (e _ _ h)
  refine ⟨fun hi => ⟨⟨xs, xs[i], hs, List.getElem?_eq_getElem (by omega)⟩, fun x H3 hy => ?_⟩, fun hi => ⟨xs, hs, by omega⟩⟩
  obtain ⟨e3, hy⟩ := hy
  exact ⟨e3, r.get' (hy xs hs)⟩
theorem yields_rng {lo : Int} {n : Nat} {Hb : Hp} : Yields (Itr lo n) Hb ((List.range n).map fun i : Nat => .int (lo + (i : Int))) := fun i H2 e => by
  refine ⟨fun hi => ?_, fun hi => ?_⟩
  · have hi' : i < n := by simpa using hi
    refine ⟨hi', fun x H3 hy => ?_⟩
    obtain ⟨e3, rfl⟩ := hy
    exact ⟨e3, _, by rw [List.getElem?_map, List.getElem?_range hi']; rfl, rp_int.mpr rfl⟩
  · show n ≤ i
    simpa using hi
theorem gi_list (h : Gv tl Γ (.list ds)) : Gi (iList K tl) Γ ds := fun σ H F f e R q => h σ H F f e _ fun v H1 e1 r1 => by
  obtain ⟨a, xs, rfl, h2, h3⟩ := rp_list.mp r1
  exact ⟨a, rfl, ⟨xs, SqL.of (hide_in _ _ h2)⟩, q _ H1 e1 (yields_list h2 h3)⟩
theorem gi_tup (h : Gv tl Γ (.tuple ds)) : Gi (iTup K tl) Γ ds := fun σ H F f e R q => h σ H F f e _ fun v H1 e1 r1 => by
  obtain ⟨a, xs, rfl, h2, h3⟩ := rp_tup.mp r1
  exact ⟨a, rfl, ⟨xs, SqT.of (hide_in _ _ h2)⟩, q _ H1 e1 (yields_tup h2 h3)⟩
theorem gi_r1 {t : TA} {n : Nat} (h : Ga t Γ [.int (n : Int)]) (hn : n ≤ 100000) : Gi (iRng1 t) Γ ((List.range n).map fun i : Nat => .int (i : Int)) := fun σ H F f e R q => h σ H F f e _ fun vs H1 e1 r1 => by
  obtain ⟨v, rfl, h1⟩ := rpa_one.mp r1
  refine ⟨n, by rw [rp_int.mp h1], by omega, by omega, q _ H1 e1 ?_⟩
  have := yields_rng (lo := 0) (n := n) (Hb := hide F H1)
  simp only [Int.zero_add] at this
  exact this
theorem gi_r2 {t : TA} {a b : Int} (h : Ga t Γ [.int a, .int b]) (ha : 0 ≤ a ∧ a ≤ 100000) (hb : 0 ≤ b ∧ b ≤ 100000) : Gi (iRng2 t) Γ ((List.range (b - a).toNat).map fun i : Nat => .int (a + (i : Int))) := fun σ H F f e R q => h σ H F f e _ fun vs H1 e1 r1 => by
  obtain ⟨v, u, rfl, h1, h2⟩ := rpa_two.mp r1
  exact ⟨a, b, by rw [rp_int.mp h1, rp_int.mp h2], ⟨by omega, by omega, by omega, by omega⟩, q _ H1 e1 yields_rng⟩

/-! ### comprehensions -/
theorem filter_take {α β : Type} {as : List α} (p : α → Bool) (g : α → β) {i : Nat} {a : α} (h : as[i]? = some a) : ((as.take (i + 1)).filter p).map g = ((as.take i).filter p).map g ++ (if p a = true then [g a] else []) := by
  rw [List.take_succ, h, List.filter_append, List.map_append]
  congr 1
  show List.map g (List.filter p [a]) = _
  by_cases q : p a = true
  · rw [if_pos q, List.filter_cons_of_pos q]
    rfl
  · rw [if_neg q, List.filter_cons_of_neg q]
    rfl
theorem gv_lc {α : Type} {wi : TI} {j : Nat} (as : List α) (fd : α → PD) (p : α → Bool) (g : α → PD) (hi : Gi wi Γ (as.map fd)) (hlen : as.length ≤ 1000) (ht : ∀ a ∈ as, Gt t (Γ.set j (some (fd a))) (p a))
    (he : ∀ a ∈ as, p a = true → Gv te (Γ.set j (some (fd a))) (g a)) : Gv (tLc wi (gName j) t te [j]) Γ (.list ((as.filter p).map g)) := fun σ H F f e Q q => hi σ H F f e _ fun J H1 e1 hy D hD => by
  have f1 := f.ex e1
  have hFD : F D = false := f1.no hD
  have fD : ∀ {H' : Hp}, Ex H1 H' → (∀ {xs : List V}, H' D = some (.lst xs) → Fok (add F D) H') := fun {H'} e' {xs} hd => fok_add (f1.ex e') hd (fun _ z => by cases z)
  have eb : Ex (hide F H1) (upd H1 D (.lst [])) := (hide_in).trans (Ex.new hD)
  refine ⟨fun i m H' => i + m = as.length ∧ Ex H1 H' ∧ ∃ acc, H' D = some (.lst acc) ∧ RpA (hide (add F D) H') (((as.take i).filter p).map g) acc, ⟨as.length, by omega, Ex.new hD, [], upd_same, rpa_nil.mpr rfl⟩, ?_⟩
  rintro i m H' ⟨him, e', acc, hacc, hr⟩
  have hyi := hy i H' (hide_in.trans e')
  by_cases hlt : i < as.length
  · obtain ⟨hgo, hyld⟩ := hyi.1 (by simpa using hlt)
    refine .inr ⟨hgo, fun H'' => Ex H1 H'' ∧ ∃ acc, H'' D = some (.lst acc) ∧ RpA (hide (add F D) H'') (((as.take (i + 1)).filter p).map g) acc, fun H'' ⟨h1, h2⟩ => ⟨m - 1, by omega, by omega, h1, h2⟩, fun x H3 hx => ?_⟩
    obtain ⟨rfl, d, hd, hrx⟩ := hyld x H3 hx
    have ha : as[i]? = some as[i] := List.getElem?_eq_getElem hlt
    have hd' : d = fd as[i] := by
      rw [List.getElem?_map, ha] at hd
      exact (Option.some.inj hd).symm
    have hm : as[i] ∈ as := List.getElem_mem hlt
    generalize as[i] = a at ha hd' hm
    subst hd'
    have fk : Fok (add F D) H3 := fD e' hacc
    -- the slots within the block
    have kx : Ex (hide F H1) (hide (add F D) H3) := fun b o hb => by
      obtain ⟨b1, b2⟩ := hide_some hb
      have hbD : b ≠ D := ne_of_none b2 hD
      rw [hide_no (by rw [add_ne hbD]; exact b1)]
      exact e' b o b2
    have E1 : Env (hide (add F D) H3) σ Γ := (e.ex (hide_ex e1)).ex kx
    have E2 : Env (hide (add F D) H3) ((wipe σ [j]).set j (some x)) (Γ.set j (some (fd a))) := by
      have z := (E1.drop (i := j) none).set (i := j) (d := fd a) (v := x) (hrx.ex kx)
      have eΓ : (Γ.set j none).set j (some (fd a)) = Γ.set j (some (fd a)) := List.set_set ..
      rw [eΓ] at z
      exact z
    refine ⟨?_, ht a hm _ H3 (add F D) fk E2 _ fun H4 e4 => ?_⟩
    · show (((σ.set j none).set j (some x)).set j none) = σ.set j none
      rw [List.set_set, List.set_set]
    · have fk4 := fk.ex e4
      cases hp : p a with
      | true =>
        refine he a hm hp _ H4 (add F D) fk4 (E2.ex (hide_ex e4)) _ fun v H5 e5 r5 => ⟨acc, e5 _ _ (e4 _ _ hacc), ?_, ?_, acc ++ [v], upd_same, ?_⟩
        · have hl := hr.len
          rw [hl, List.length_map]
          have := List.length_filter_le p (as.take i)
          rw [List.length_take] at this
          rw [sizeLine_eq]
          omega
        · exact Ex.mut ((e'.trans e4).trans e5) hD
        · rw [hide_add_upd, filter_take p g ha, hp, if_pos rfl]
          exact (hr.ex (hide_ex (e4.trans e5))).snoc r5
      | false =>
        refine ⟨e'.trans e4, acc, e4 _ _ hacc, ?_⟩
        rw [filter_take p g ha, hp, if_neg Bool.false_ne_true, List.append_nil]
        exact hr.ex (hide_ex e4)
  · refine .inl ⟨hyi.2 (by simpa using hlt), q _ H' (e1.trans e') (rp_list.mpr ⟨D, acc, rfl, hide_at hFD hacc, ?_⟩)⟩
    rw [List.take_of_length_le (by omega)] at hr
    exact hr.ex hide_add_in
/-- without a test -/
theorem gt_yes : Gt tYes Γ true := fun σ H F f e Q q => q H (Ex.refl H)
theorem gv_lcA {α : Type} {wi : TI} {j : Nat} (as : List α) (fd : α → PD) (g : α → PD) (hi : Gi wi Γ (as.map fd)) (hlen : as.length ≤ 1000)
    (he : ∀ a ∈ as, Gv te (Γ.set j (some (fd a))) (g a)) : Gv (tLc wi (gName j) tYes te [j]) Γ (.list (as.map g)) := by
  have := gv_lc (t := tYes) as fd (fun _ => true) g hi hlen (fun _ _ => gt_yes) (fun a ha _ => he a ha)
  rw [List.filter_eq_self.mpr (fun _ _ => rfl)] at this
  exact this

/-! ### blocks -/
theorem rpa_tups {H : Hp} : ∀ {L : List Ev.Blk} {xs : List V}, RpA H (L.map dT) xs → ∃ bs : List (V × List Int), bs.map (·.1) = xs ∧ bs.map (·.2) = L ∧ ∀ p ∈ bs, Rp H (dT p.2) p.1
  | [], _, h => ⟨[], by rw [rpa_nil.mp h]; rfl, rfl, fun p hp => by cases hp⟩
  | b :: L, _, h => by
    obtain ⟨x, r, rfl, h1, h2⟩ := rpa_cons.mp h
    obtain ⟨bs, e1, e2, e3⟩ := rpa_tups h2
    refine ⟨(x, b) :: bs, by rw [List.map_cons, e1], by rw [List.map_cons, e2], fun p hp => ?_⟩
    rcases List.mem_cons.mp hp with q | q
    · rw [q]; exact h1
    · exact e3 p q
theorem tups_rpa {H : Hp} : ∀ {bs : List (V × List Int)}, (∀ p ∈ bs, Rp H (dT p.2) p.1) → RpA H ((bs.map (·.2)).map dT) (bs.map (·.1))
  | [], _ => rpa_nil.mpr rfl
  | b :: bs, h => rpa_cons.mpr ⟨_, _, rfl, h b List.mem_cons_self, tups_rpa fun p hp => h p (List.mem_cons_of_mem _ hp)⟩
theorem tupI_of {H : Hp} {v : V} {ns : List Int} (h : Rp H (dT ns) v) : TupI K H v ns := by
  obtain ⟨a, rfl, h1⟩ := rp_dT.mp h
  exact ⟨a, rfl, SqT.of h1⟩
theorem gc_sortBs {H : Hp} {F : Addr → Bool} (f : Fok F H) {a : Addr} {L : List Ev.Blk} {xs : List V} (hs : SqL K H a xs ∨ SqT K H a xs) (r : RpA (hide F H) (L.map dT) xs) {Q : VK}
    (q : ∀ w H2, Ex H H2 → Rp (hide F H2) (.list ((Ev.srtB L).map dT)) w → Q w H2) : rSortB K [.ref a] H Q := by
  obtain ⟨bs, rfl, rfl, hb⟩ := rpa_tups r
  refine ⟨a, bs, rfl, hs, fun p hp => tupI_of ((hb p hp).ex hide_in), fun cs p hp hw hn => q _ _ (Ex.new hn) (rp_list.mpr ⟨p, _, rfl, fresh_hide f hn, ?_⟩)⟩
  have e : Ev.srtB (bs.map (·.2)) = cs.map (·.2) := (Ev.srtB_uniq (hp.map _) (List.pairwise_map.mpr hw)).symm
  rw [e]
  exact tups_rpa fun z hz => (hb z (hp.mem_iff.mp hz)).ex (hide_ex (Ex.new hn))
theorem gc_sortBL {L : List Ev.Blk} : Grc (rSortB K) [.list (L.map dT)] (.list ((Ev.srtB L).map dT)) := fun H F f vs h Q q => by
  obtain ⟨v, rfl, h1⟩ := rpa_one.mp h
  obtain ⟨a, xs, rfl, h2, h3⟩ := rp_list.mp h1
  exact gc_sortBs f (.inl (SqL.of (hide_in _ _ h2))) h3 q
theorem gc_sortBT {L : List Ev.Blk} : Grc (rSortB K) [.tuple (L.map dT)] (.list ((Ev.srtB L).map dT)) := fun H F f vs h Q q => by
  obtain ⟨v, rfl, h1⟩ := rpa_one.mp h
  obtain ⟨a, xs, rfl, h2, h3⟩ := rp_tup.mp h1
  exact gc_sortBs f (.inr (SqT.of (hide_in _ _ h2))) h3 q
theorem gc_minB {L : List Ev.Blk} {l : Ev.Blk} (hl : l ∈ L) (hm : ∀ y ∈ L, l ≤ y) : Grc (rMinB K) [.list (L.map dT)] (dT l) := fun H F f vs h Q q => by
  obtain ⟨v, rfl, h1⟩ := rpa_one.mp h
  obtain ⟨a, xs, rfl, h2, h3⟩ := rp_list.mp h1
  obtain ⟨bs, rfl, rfl, hb⟩ := rpa_tups h3
  refine ⟨a, bs, rfl, SqL.of (hide_in _ _ h2), ?_, fun p hp => tupI_of ((hb p hp).ex hide_in), fun p hp hle => q _ H (Ex.refl H) ?_⟩
  · rintro rfl
    cases hl
  · have e : p.2 = l := by
      obtain ⟨z, hz, rfl⟩ := List.mem_map.mp hl
      exact List.le_antisymm (hle z hz) (hm p.2 (List.mem_map.mpr ⟨p, hp, rfl⟩))
    rw [← e]
    exact hb p hp
/-- sorted(set(..)) of a list of tuples of ints -/
theorem gv_sortSet {P : Program} {w : World} {L : List Ev.Blk} (h : Gv te Γ (.list (L.map dT))) (hl : L.length < 64) :
    Gv (tCB (rSortSetB K P w) (tCons (tCB (rSetOfT K P w) (tCons te tNil)) tNil)) Γ (.list ((Ev.srtB L.eraseDups).map dT)) := fun σ H F f e Q q => h σ H F f e _ fun v H1 e1 r1 => by
  have f1 := f.ex e1
  obtain ⟨a, xs, rfl, h2, h3⟩ := rp_list.mp r1
  obtain ⟨bs, rfl, rfl, hb⟩ := rpa_tups h3
  -- the addresses
  obtain ⟨ks, hk1, hk2⟩ : ∃ ks : List (Addr × List Int), ks.map (fun p => (V.ref p.1, p.2)) = bs ∧ ∀ p ∈ ks, hide F H1 p.1 = some (.tup (p.2.map V.int)) := by
    clear h3 h2 h hl r1 q
    revert hb
    induction bs with
    | nil => intro _; exact ⟨[], rfl, fun p hp => by cases hp⟩
    | cons b bs ih =>
      intro hb
      obtain ⟨ks, i1, i2⟩ := ih fun p hp => hb p (List.mem_cons_of_mem _ hp)
      obtain ⟨t, e1, e2⟩ := rp_dT.mp (hb b List.mem_cons_self)
      refine ⟨(t, b.2) :: ks, by rw [List.map_cons, i1, ← e1], fun p hp => ?_⟩
      rcases List.mem_cons.mp hp with z | z
      · rw [z]; exact e2
      · exact i2 p z
  have em : bs.map (·.1) = ks.map fun p => V.ref p.1 := by rw [← hk1, List.map_map]; rfl
  have em2 : bs.map (·.2) = ks.map (·.2) := by rw [← hk1, List.map_map]; rfl
  rw [em] at h2
  rw [em2] at hl
  refine ⟨a, ks, rfl, SqL.of (hide_in _ _ h2), fun p hp => SqT.of (hide_in _ _ (hk2 p hp)), by rw [List.length_map] at hl; exact hl, fun s Ls hs hsub hall => ?_⟩
  have tup2 : ∀ p ∈ Ls, upd H1 s (SetTO P w s Ls) p.1 = some (.tup (p.2.map V.int)) := fun p hp => Ex.new hs _ _ (hide_in _ _ (hk2 p (hsub p hp)))
  show rSortSetB K P w [.ref s] _ Q
  refine ⟨s, Ls, rfl, upd_same, fun p hp => SqT.of (tup2 p hp), fun L' p hperm hnd hpw hn => q _ _ ((e1.trans (Ex.new hs)).trans (Ex.new hn)) (rp_list.mpr ⟨p, L'.map fun q => V.ref q.1, rfl, ?_, ?_⟩)⟩
  · exact fresh_hide (f1.ex (Ex.new hs)) hn
  · have eS : L'.map (·.2) = Ev.srtB (bs.map (·.2)).eraseDups := by
      refine Ev.srtB_uniq ((List.perm_ext_iff_of_nodup hnd (Ev.nodup_eraseDups _ _ (Nat.le_refl _))).mpr fun x => ?_) (List.pairwise_map.mpr hpw)
      rw [List.mem_eraseDups, em2, (hperm.map (·.2)).mem_iff]
      constructor
      · intro hx
        obtain ⟨z, hz, rfl⟩ := List.mem_map.mp hx
        exact List.mem_map.mpr ⟨z, hsub z hz, rfl⟩
      · intro hx
        obtain ⟨z, hz, rfl⟩ := List.mem_map.mp hx
        exact hall z hz
    rw [← eS]
    have e3 : ∀ z ∈ L'.map (fun q : Addr × List Int => (V.ref q.1, q.2)), Rp (hide F (upd (upd H1 s (SetTO P w s Ls)) p (.lst (L'.map fun q => V.ref q.1)))) (dT z.2) z.1 := fun z hz => by
      obtain ⟨y, hy, rfl⟩ := List.mem_map.mp hz
      exact rp_dT.mpr ⟨y.1, rfl, hide_ex ((Ex.new hs).trans (Ex.new hn)) _ _ (hk2 y (hsub y (hperm.mem_iff.mp hy)))⟩
    have e4 := tups_rpa e3
    have q1 : (L'.map (fun q : Addr × List Int => (V.ref q.1, q.2))).map (·.2) = L'.map (·.2) := by rw [List.map_map]; rfl
    have q2 : (L'.map (fun q : Addr × List Int => (V.ref q.1, q.2))).map (·.1) = L'.map fun q => V.ref q.1 := by rw [List.map_map]; rfl
    rw [q1, q2] at e4
    exact e4

/-! ### further calls -/
theorem gv_lenSet {ns : List Int} (h : Gv te Γ (dL ns)) (hn : ns.Nodup) (hl : ns.length < 64) : Gv (tLenSetI K te) Γ (.int ns.length) := fun σ H F f e Q q => h σ H F f e _ fun v H1 e1 r1 => by
  obtain ⟨a, rfl, h2⟩ := rp_dL.mp r1
  exact ⟨a, ns, rfl, SqL.of (hide_in _ _ h2), hl, hn, q _ H1 e1 (rp_int.mpr rfl)⟩
theorem gv_listRg {n : Nat} (h : Gv te Γ (.int (n : Int))) (hn : n ≤ 100000) : Gv (tLstRg (tRg1 te)) Γ (dL ((List.range n).map fun i : Nat => (i : Int))) := fun σ H F f e Q q => h σ H F f e _ fun v H1 e1 r1 => by
  refine ⟨(n : Int), rp_int.mp r1, ⟨by omega, by omega, by omega, by omega, by omega⟩, fun p hp => q _ _ (e1.trans (Ex.new hp)) (rp_dL.mpr ⟨p, rfl, ?_⟩)⟩
  rw [fresh_hide (f.ex e1) hp, List.map_map]
  congr 2
  unfold rgV
  rw [show (((n : Int) - 0).toNat) = n by omega]
  exact List.map_congr_left fun i _ => congrArg V.int (Int.zero_add (i : Int))
theorem gv_drop1 (h : Gv te Γ (.list ds)) : Gv (tSl (rSlL K) te (tPart (tC (.int 1))) tNoPart) Γ (.list (ds.drop 1)) := fun σ H F f e Q q => h σ H F f e _ fun v H1 e1 r1 => by
  obtain ⟨a, xs, rfl, h2, h3⟩ := rp_list.mp r1
  refine ⟨1, rfl, a, xs, rfl, SqL.of (hide_in _ _ h2), fun p hp => q _ _ (e1.trans (Ex.new hp)) (rp_list.mpr ⟨p, _, rfl, fresh_hide (f.ex e1) hp, ?_⟩)⟩
  have ec : cutV xs (some 1) none = xs.drop 1 := by
    unfold cutV
    rw [show HT.sIx xs.length 0 (some 1) = min 1 xs.length from HT.sIx_nat xs.length 0 1, HT.sIx_none]
    cases xs with
    | nil => rfl
    | cons x r =>
      have e2 : min 1 (x :: r).length = 1 := by rw [List.length_cons]; omega
      rw [e2]
      exact List.take_of_length_le (Nat.le_of_eq (by simp))
  rw [ec]
  exact (h3.ex (hide_ex (Ex.new hp))).drop 1
theorem gv_isiI {i : Int} {T : String} {b : Bool} (h : Gv te Γ (.int i)) (hk : kitB "int" T = some b) : Gv (tCB (rIsi K) (tCons te (tCons (tC (.ty T)) tNil))) Γ (.bool b) := fun σ H F f e Q q => h σ H F f e _ fun v H1 e1 r1 => by
  rw [rp_int.mp r1]
  exact ⟨_, _, _, _, b, rfl, .ty T, .base (.int i), kit_ty hk, q _ H1 e1 (rp_bool.mpr rfl)⟩
theorem gv_isiL {T : String} {b : Bool} (h : Gv te Γ (.list ds)) (hk : kitB "list" T = some b) : Gv (tCB (rIsi K) (tCons te (tCons (tC (.ty T)) tNil))) Γ (.bool b) := fun σ H F f e Q q => h σ H F f e _ fun v H1 e1 r1 => by
  obtain ⟨a, xs, rfl, h2, h3⟩ := rp_list.mp r1
  exact ⟨_, _, _, _, b, rfl, .ty T, .base (.lst (hide_in _ _ h2)), kit_ty hk, q _ H1 e1 (rp_bool.mpr rfl)⟩

/-! ### statements -/
variable {D : Ends} {rest ts tu : TS} {σ : L2.St} {H : Hp} {F : Addr → Bool}
theorem gs_asg {i : Nat} (h : Gv te Γ d) (f : Fok F H) (e : Env (hide F H) σ Γ) (k : ∀ σ' H', Ex H H' → Fok F H' → Env (hide F H') σ' (Γ.set i (some d)) → rest D σ' H') : tSeq (tAsg te (gName i)) rest D σ H :=
  h σ H F f e _ fun v H1 e1 r1 => k _ H1 e1 (f.ex e1) ((e.ex (hide_ex e1)).set r1)
theorem gs_asg2 {i j : Nat} {d1 d2 : PD} (h : Gv te Γ (.tuple [d1, d2])) (f : Fok F H) (e : Env (hide F H) σ Γ)
    (k : ∀ σ' H', Ex H H' → Fok F H' → Env (hide F H') σ' ((Γ.set i (some d1)).set j (some d2)) → rest D σ' H') : tSeq (tAsg te (gTup K 2 (gCons (gName i) (gCons (gName j) gNil)))) rest D σ H :=
  h σ H F f e _ fun v H1 e1 r1 => by
    obtain ⟨a, xs, rfl, h2, h3⟩ := rp_tup.mp r1
    obtain ⟨v1, v2, rfl, r1, r2⟩ := rpa_two.mp h3
    exact ⟨a, _, rfl, SqT.of (hide_in _ _ h2), rfl, v1, [v2], rfl, v2, [], rfl, rfl, k _ H1 e1 (f.ex e1) (((e.ex (hide_ex e1)).set r1).set r2)⟩
theorem gs_drop (h : Gv te Γ d) (f : Fok F H) (e : Env (hide F H) σ Γ) (k : ∀ H', Ex H H' → Fok F H' → Env (hide F H') σ Γ → rest D σ H') : tSeq (tDrop te) rest D σ H :=
  h σ H F f e _ fun v H1 e1 r1 => k H1 e1 (f.ex e1) (e.ex (hide_ex e1))
theorem gs_ret (h : Gv te Γ d) (f : Fok F H) (e : Env (hide F H) σ Γ) (k : ∀ v H', Ex H H' → Rp (hide F H') d v → D.rt v H') : tRet te D σ H := h σ H F f e _ k
theorem gs_if {b : Bool} (h : Gt t Γ b) (f : Fok F H) (e : Env (hide F H) σ Γ) (h1 : b = true → ∀ H', Ex H H' → Fok F H' → Env (hide F H') σ Γ → ts { D with nx := rest D } σ H')
    (h2 : b = false → ∀ H', Ex H H' → Fok F H' → Env (hide F H') σ Γ → tu { D with nx := rest D } σ H') : tSeq (tIfS t ts tu) rest D σ H := h σ H F f e _ fun H1 e1 => by
  cases b with
  | true => exact h1 rfl H1 e1 (f.ex e1) (e.ex (hide_ex e1))
  | false => exact h2 rfl H1 e1 (f.ex e1) (e.ex (hide_ex e1))
/-- an if without else whose test fails -/
theorem gs_no (h : Gt t Γ false) (f : Fok F H) (e : Env (hide F H) σ Γ) (k : ∀ H', Ex H H' → Fok F H' → Env (hide F H') σ Γ → rest D σ H') : tSeq (tIfS t ts tNext) rest D σ H := h σ H F f e _ fun H1 e1 => k H1 e1 (f.ex e1) (e.ex (hide_ex e1))
theorem gs_next (k : D.nx σ H) : tNext D σ H := k
end
end EvW
-- part EvTxt
namespace EvW
open PySem L2
/-! ### the text by places -/
def top (i : Nat) : Stmt := PySem.Challenge.pw_evenmeet_k40_whole_bases_taken_so_often.main.body.getD i (.Pass ⟨0, 0, 0, 0⟩)
abbrev sWholeL : Stmt := top 7
abbrev sPoint : Stmt := top 9
abbrev sBlock : Stmt := top 10
abbrev sSortedL : Stmt := top 11
abbrev sRow : Stmt := top 12
abbrev sRenamed : Stmt := top 13
abbrev sWholeN : Stmt := top 15
abbrev sCheck : Stmt := top 18
abbrev sTurned : Stmt := top 19
abbrev sDeveloped : Stmt := top 20
abbrev sDiffs : Stmt := top 21
abbrev sCounted : Stmt := top 22
abbrev sTurns : Stmt := top 23
abbrev sCell : Stmt := top 25
abbrev sNumbers : Stmt := top 26
abbrev sBase : Stmt := top 27
abbrev sGcd : Stmt := top 28
abbrev sMoved : Stmt := top 29
abbrev sAgain : Stmt := top 30
abbrev sPairs : Stmt := top 31
abbrev sAlike : Stmt := top 32
abbrev sLaw : Stmt := top 33
theorem b_isi : bootBuiltins "isinstance" = some (.builtin "isinstance") := by decide +kernel
theorem b_int : bootBuiltins "int" = some (.type "int") := by decide +kernel
theorem b_bool : bootBuiltins "bool" = some (.type "bool") := by decide +kernel
theorem b_all : bootBuiltins "all" = some (.builtin "all") := by decide +kernel
theorem b_len : bootBuiltins "len" = some (.builtin "len") := by decide +kernel
theorem b_set : bootBuiltins "set" = some (.type "set") := by decide +kernel
theorem b_list : bootBuiltins "list" = some (.type "list") := by decide +kernel
theorem b_tuple : bootBuiltins "tuple" = some (.type "tuple") := by decide +kernel
theorem b_sorted : bootBuiltins "sorted" = some (.builtin "sorted") := by decide +kernel
theorem b_min : bootBuiltins "min" = some (.builtin "min") := by decide +kernel
theorem b_sum : bootBuiltins "sum" = some (.builtin "sum") := by decide +kernel
theorem b_abs : bootBuiltins "abs" = some (.builtin "abs") := by decide +kernel
/-- what the module's names hold that are not defs -/
structure Txt (mg : Str → Option Value) : Prop where
  isi : mg "isinstance" = none
  int : mg "int" = none
  bool : mg "bool" = none
  all : mg "all" = none
  len : mg "len" = none
  set : mg "set" = none
  list : mg "list" = none
  tuple : mg "tuple" = none
  sorted : mg "sorted" = none
  range : mg "range" = none
  min : mg "min" = none
  sum : mg "sum" = none
  abs : mg "abs" = none
  mp : ∃ t, mg "MOST_POINTS" = some (.int 60 t)
  mb : ∃ t, mg "MOST_BLOCKS" = some (.int 200 t)
/-- a def that is called: it keeps its promise -/
structure Cal (P : Program) (w : World) (K : PySem.W.Frag) (mg : Str → Option Value) (base : Heap) (k : Nat) (x : Str) (ps : List Str) (sp : Sp) (f : Addr) (fd : FuncData) : Prop where
  ok : FnOk P w K mg base CX0 k f fd ps sp
  mg : mg x = some (.ref f)
  kp : (PySem.W.keepIn K (.ref f)) = true
  bd : Binds K fd ps []
section
variable {X : Cx} {t : TA} {e : Expr} {es : List Expr} {x : Str} {p pos : Pos} {k : Nat} {ps : List Str} {sp : Sp} {f : Addr} {fd : FuncData}
theorem pe_cal (C : Cal X.prog X.w X.K X.mg X.base k x ps sp f fd) (hr : Room k X.A) (hg : Gl X x) (ha : PA X (e :: es) t) 
    (hn : x ≠ "__name__" := by decide) (hd : (x == ("__debug__" : Str)) = false := by decide) (he : starEach (e :: es) X.env = (false, eval e X.env) :: starEach es X.env := by rfl) (hpl : (backTo pos (starEach es X.env)).any (·.1) = false := by rfl) :
    PE X (.Call (.Name x p) (e :: es) [] pos) (tCall sp [] E0 t) := pe_call C.ok hr hg C.mg C.kp C.bd .nil pass0 ha (hdb := hd) (he := he) (hpl := hpl)
theorem hu64 {A : Around} {k : Nat} (hr : Room k A) : A.units + 64 < cLine := hr.units
end
section
variable {X : Cx} {K : PySem.W.Frag} {P : Program} {w : World}
/-! the rules that tell of the written part, told of K itself (within a comprehension) -/
theorem ix_listK (h : X.K = K) : IxR X (rIxL K) := by subst h; exact ix_list
theorem ix_tupK (h : X.K = K) : IxR X (rIxT K) := by subst h; exact ix_tup
theorem pi_listK {tg l : Expr} {tl : TE} (h : X.K = K) (hl : PE X l tl) : PI X tg l (iList K tl) := by subst h; exact pi_list hl
theorem pi_tupK {tg l : Expr} {tl : TE} (h : X.K = K) (hl : PE X l tl) : PI X tg l (iTup K tl) := by subst h; exact pi_tup hl
theorem op_inK (h : X.K = K) : OpR X (compareOp .In) (rIn K false) := by subst h; exact op_in_seq
theorem call_lenK (h : X.K = K) : CallR X (.builtin "len") (fun xs H Q => ∃ p ys, xs = [.ref p] ∧ (SqL K H p ys ∨ SqT K H p ys) ∧ Q (.int ys.length) H) := by subst h; exact call_len_seq
theorem call_tupleK (h : X.K = K) : CallR X (.type "tuple") (fun xs H Q => ∃ p ys, xs = [.ref p] ∧ ((SqL K H p ys ∧ ∀ l, H l = none → Q (.ref l) (upd H l (.tup ys))) ∨ (SqT K H p ys ∧ Q (.ref p) H))) := by subst h; exact call_tuple_of
theorem cr_sortedK (h : X.K = K) : CallR X (.builtin "sorted") (rSorted K) := by subst h; exact cr_sorted
theorem pe_revK {e : Expr} {te : TE} {k : Nat} {p1 p2 p3 pos : Pos} (h : X.K = K) (he : PE X e te) : PE X (.Subscript e (.Slice none none (some (.UnaryOp .USub (.Constant (.int 1) k p1) p2)) p3) pos) (tRevL K te) := by subst h; exact pe_revL he
end
/-- a for whose turns change nothing but slots -/
theorem gs_for {α : Type} {wi : TI} {j : Nat} {Γ0 : Ctx} {tb rest : TS} {D : Ends} {σ : L2.St} {H : Hp} {F : Addr → Bool} (as : List α) (fd : α → PD) (Γi : Nat → Ctx) (hi : Gi wi Γ0 (as.map fd)) (f : Fok F H) (e : Env (hide F H) σ Γ0)
    (h0 : ∀ (H' : Hp) (σ' : L2.St), Env H' σ' Γ0 → Env H' σ' (Γi 0))
    (hs : ∀ (i : Nat) (a : α), as[i]? = some a → ∀ (σ' : L2.St) (H' : Hp), Ex H H' → Fok F H' → Env (hide F H') σ' ((Γi i).set j (some (fd a))) →
      ∀ (Nx Bk : L2.St → Hp → Prop), (∀ σ2 H2, Ex H' H2 → Env (hide F H2) σ2 (Γi (i + 1)) → Nx σ2 H2) → tb { D with nx := Nx, ct := Nx, bk := Bk } σ' H')
    (k : ∀ σ' H', Ex H H' → Fok F H' → Env (hide F H') σ' (Γi as.length) → rest D σ' H') : tSeq (tFor wi (gName j) tb) rest D σ H :=
  hi σ H F f e _ fun J H1 e1 hy => by
    refine ⟨fun i m σ' H' => i + m = as.length ∧ Ex H1 H' ∧ Env (hide F H') σ' (Γi i), ⟨as.length, by omega, Ex.refl _, h0 _ _ (e.ex (hide_ex e1))⟩, ?_⟩
    rintro i m σ' H' ⟨him, e', E'⟩
    have hyi := hy i H' (hide_in.trans e')
    have f' := f.ex (e1.trans e')
    by_cases hlt : i < as.length
    · obtain ⟨hgo, hyld⟩ := hyi.1 (by simpa using hlt)
      refine .inr ⟨hgo, fun σ2 H2 => Ex H1 H2 ∧ Env (hide F H2) σ2 (Γi (i + 1)), fun σ2 H2 ⟨h1, h2⟩ => ⟨m - 1, by omega, by omega, h1, h2⟩, fun x H3 hx => ?_⟩
      obtain ⟨rfl, d, hd, hrx⟩ := hyld x H3 hx
      have ha : as[i]? = some as[i] := List.getElem?_eq_getElem hlt
      have hd' : d = fd as[i] := by
        rw [List.getElem?_map, ha] at hd
        exact (Option.some.inj hd).symm
      subst hd'
      exact hs i _ ha _ H3 (e1.trans e') f' (E'.set (hrx.ex (hide_ex e'))) _ _ fun σ2 H2 h1 h2 => ⟨e'.trans h1, h2⟩
    · have hl : i = as.length := by omega
      subst hl
      exact .inl ⟨hyi.2 (by simp), k σ' H' (e1.trans e') f' E'⟩
end EvW
-- part EvWalk1
namespace EvW
open PySem L2
theorem map_int {α : Type} (l : List α) (f : α → Int) : PyData.list (l.map fun a => .int (f a)) = dL (l.map f) := by
  show PyData.list (l.map fun a => .int (f a)) = .list ((l.map f).map .int)
  rw [List.map_map]
  rfl
theorem map_bool {α : Type} (l : List α) (f : α → Bool) : PyData.list (l.map fun a => .bool (f a)) = .list ((l.map f).map .bool) := by
  rw [List.map_map]
  rfl
theorem map_tup {α : Type} (l : List α) (f : α → Ev.Blk) : PyData.list (l.map fun a => dT (f a)) = .list ((l.map f).map dT) := by
  rw [List.map_map]
  rfl
/-- a layout -/
abbrev dLay (n : Nat) (L : List Ev.Blk) : PD := .tuple [.int n, .tuple (L.map dT)]
section
variable {P : Program} {w : World} {K : PySem.W.Frag} {mg : Str → Option Value} {base : Heap}
/-! ### is_whole -/
def pWhole : List PD → PD → Prop := fun ds d => ∃ i : Int, ds = [.int i] ∧ d = .bool true
theorem scWL : FnScope ["thing"] ["thing"] (defScope sWholeL) := ⟨rfl, rfl, rfl, by decide +kernel, rfl, by decide +kernel, by decide +kernel⟩
theorem scWN : FnScope ["thing"] ["thing"] (defScope sWholeN) := ⟨rfl, rfl, rfl, by decide +kernel, rfl, by decide +kernel, by decide +kernel⟩
theorem ok_wholeL {f : Addr} {fd : FuncData} (F : Fun K "is_whole" "is_whole" sWholeL f fd) (T : Txt mg) : FnOk P w K mg base CX0 1 f fd ["thing"] (spD pWhole) := by
  refine F.ok scWL (fun vs H Q E h => ?_) (fun cdv A outer s H vs Q E hr h => ?_)
  · obtain ⟨G, ds, d, fo, r, ⟨i, rfl, rfl⟩, q⟩ := h
    exact r.len
  · obtain ⟨G, ds, d, fo, r, ⟨i, rfl, rfl⟩, q⟩ := h
    have e : Env (hide G H) (L2.start ["thing"] vs) [some (.int i)] := env_start r
    refine ⟨_, pss_one (ps_ret (pe_and (pe_callB call_isi (by rfl) T.isi b_isi (pa_cons (pv 0) (pa_cons (pe_bltn (v := .ty "int") (by rfl) T.int b_int rfl) pa_nil)))
      (pe_one (pe_not (pe_callB call_isi (by rfl) T.isi b_isi (pa_cons (pv 0) (pa_cons (pe_bltn (v := .ty "bool") (by rfl) T.bool b_bool rfl) pa_nil))))))), ?_⟩
    exact gs_ret (gv_and (gv_isiI (b := true) (gv_var rfl) (by decide +kernel)) fun _ => gv_not (gv_isiI (b := false) (gv_var rfl) (by decide +kernel))) fo e q
theorem ok_wholeN {f : Addr} {fd : FuncData} (F : Fun K "is_whole" "is_whole" sWholeN f fd) (T : Txt mg) : FnOk P w K mg base CX0 1 f fd ["thing"] (spD pWhole) := by
  refine F.ok scWN (fun vs H Q E h => ?_) (fun cdv A outer s H vs Q E hr h => ?_)
  · obtain ⟨G, ds, d, fo, r, ⟨i, rfl, rfl⟩, q⟩ := h
    exact r.len
  · obtain ⟨G, ds, d, fo, r, ⟨i, rfl, rfl⟩, q⟩ := h
    have e : Env (hide G H) (L2.start ["thing"] vs) [some (.int i)] := env_start r
    refine ⟨_, pss_one (ps_ret (pe_and (pe_callB call_isi (by rfl) T.isi b_isi (pa_cons (pv 0) (pa_cons (pe_bltn (v := .ty "int") (by rfl) T.int b_int rfl) pa_nil)))
      (pe_one (pe_not (pe_callB call_isi (by rfl) T.isi b_isi (pa_cons (pv 0) (pa_cons (pe_bltn (v := .ty "bool") (by rfl) T.bool b_bool rfl) pa_nil))))))), ?_⟩
    exact gs_ret (gv_and (gv_isiI (b := true) (gv_var rfl) (by decide +kernel)) fun _ => gv_not (gv_isiI (b := false) (gv_var rfl) (by decide +kernel))) fo e q
/-! ### is_point -/
def pPoint : List PD → PD → Prop := fun ds d => ∃ i n : Int, ds = [.int i, .int n] ∧ d = .bool (decide (0 ≤ i) && decide (i < n))
theorem scP : FnScope ["thing", "points"] ["thing", "points"] (defScope sPoint) := ⟨rfl, rfl, rfl, by decide +kernel, rfl, by decide +kernel, by decide +kernel⟩
theorem ok_point {f f1 : Addr} {fd fd1 : FuncData} (F : Fun K "is_point" "is_point" sPoint f fd) (T : Txt mg) (C1 : Cal P w K mg base 1 "is_whole_layouts" ["thing"] (spD pWhole) f1 fd1) : FnOk P w K mg base CX0 2 f fd ["thing", "points"] (spD pPoint) := by
  refine F.ok scP (fun vs H Q E h => ?_) (fun cdv A outer s H vs Q E hr h => ?_)
  · obtain ⟨G, ds, d, fo, r, ⟨i, n, rfl, rfl⟩, q⟩ := h
    exact r.len
  · obtain ⟨G, ds, d, fo, r, ⟨i, n, rfl, rfl⟩, q⟩ := h
    have e : Env (hide G H) (L2.start ["thing", "points"] vs) [some (.int i), some (.int n)] := env_start r
    refine ⟨_, pss_one (ps_ret (pe_and (pe_cal C1 hr (by rfl) (pa_cons (pv 0) pa_nil)) (pe_one (pe_chain op_le op_lt pe_int (pv 0) (pv 1))))), ?_⟩
    exact gs_ret (gv_and (gv_call (ga_1 (gv_var rfl)) ⟨i, rfl, rfl⟩) fun _ => gv_chain gv_int (gv_var rfl) (gv_var rfl) g_B0 g_B0) fo e q
/-! ### is_block -/
def pBlock : List PD → PD → Prop := fun ds d => ∃ (ns : List Int) (n : Nat), ds = [dL ns, .int (n : Int)] ∧ ns.Nodup ∧ ns.length < 64 ∧ (∀ x ∈ ns, 0 ≤ x ∧ x < n) ∧ d = .bool true
theorem scB : FnScope ["things", "points", "thing"] ["things", "points"] (defScope sBlock) := ⟨rfl, rfl, rfl, by decide +kernel, rfl, by decide +kernel, by decide +kernel⟩
theorem ok_block {f f1 : Addr} {fd fd1 : FuncData} (F : Fun K "is_block" "is_block" sBlock f fd) (T : Txt mg) (C1 : Cal P w K mg base 2 "is_point" ["thing", "points"] (spD pPoint) f1 fd1) : FnOk P w K mg base CX0 3 f fd ["things", "points"] (spD pBlock) := by
  refine F.ok scB (fun vs H Q E h => ?_) (fun cdv A outer s H vs Q E hr h => ?_)
  · obtain ⟨G, ds, d, fo, r, ⟨ns, n, rfl, _⟩, q⟩ := h
    exact r.len
  · obtain ⟨G, ds, d, fo, r, ⟨ns, n, rfl, hnd, hl, hb, rfl⟩, q⟩ := h
    have e : Env (hide G H) (L2.start ["things", "points", "thing"] vs) [some (dL ns), some (.int (n : Int)), none] := env_start r
    refine ⟨_, pss_cons (ps_if (pt_not (pt_val (pe_callB (cr_all rfl) (by rfl) T.all b_all (pa_cons (pe_lc (own := [("thing", 2)]) (g := gName 2) (tt := tYes) rfl scB.nd (pi_list (pv 0)) (blkOk_by (N := ["things", "points", "thing"]) (sc := defScope sBlock) (by decide +kernel))
        (fun _ _ _ _ _ => pg_name (i := 2) scB.nd rfl (Or.inl rfl)) (fun _ _ _ _ _ => pts_nil) (fun _ _ _ _ _ => pe_cal C1 hr (by rfl) (pa_cons (pv 2) (pa_cons (pv 1) pa_nil)))) pa_nil)))) (pss_one (ps_ret pe_bl)) pss_nil)
      (pss_one (ps_ret (pe_cmpR op_eq (pe_lenSetI rfl (by rfl) T.len (by rfl) T.set (pv 0)) (pe_callB call_len_seq (by rfl) T.len b_len (pa_cons (pv 0) pa_nil)) (nomark _)))), ?_⟩
    refine gs_no (gt_is (gt_not (gt_B (gv_cb (ga_1 (gv_is (gv_lcA ns PyData.int (fun i => .bool (decide (0 ≤ i) && decide (i < (n : Int)))) (gi_list (gv_var rfl)) (by omega) (fun a ha => gv_call (ga_2 (gv_var rfl) (gv_var rfl)) ⟨a, n, rfl, rfl⟩)) (map_bool _ _))) gc_all))) ?_) fo e fun H1 e1 f1 E1 => ?_
    · have : (ns.map fun i => decide (0 ≤ i) && decide (i < (n : Int))).all id = true := by
        rw [List.all_map, List.all_eq_true]
        intro x hx
        simp [hb x hx]
      rw [this]
      rfl
    · refine gs_ret (gv_is (gv_op (gv_lenSet (gv_var rfl) hnd hl) (gv_cb (ga_1 (gv_var rfl)) gc_lenL) g_eqI) ?_) f1 E1 fun v H' e' r' => q v H' (e1.trans e') r'
      rw [List.length_map, decide_eq_true rfl]
/-! ### is_row -/
def pRow : List PD → PD → Prop := fun ds d => ∃ (ns : List Int) (n : Nat), ds = [dL ns, .int (n : Int)] ∧ ns.length = n ∧ ns.Nodup ∧ ns.length < 64 ∧ (∀ x ∈ ns, 0 ≤ x ∧ x < n) ∧ d = .bool true
theorem scR : FnScope ["row", "points"] ["row", "points"] (defScope sRow) := ⟨rfl, rfl, rfl, by decide +kernel, rfl, by decide +kernel, by decide +kernel⟩
theorem ok_row {f f1 : Addr} {fd fd1 : FuncData} (F : Fun K "is_row" "is_row" sRow f fd) (T : Txt mg) (C1 : Cal P w K mg base 3 "is_block" ["things", "points"] (spD pBlock) f1 fd1) : FnOk P w K mg base CX0 4 f fd ["row", "points"] (spD pRow) := by
  refine F.ok scR (fun vs H Q E h => ?_) (fun cdv A outer s H vs Q E hr h => ?_)
  · obtain ⟨G, ds, d, fo, r, ⟨ns, n, rfl, _⟩, q⟩ := h
    exact r.len
  · obtain ⟨G, ds, d, fo, r, ⟨ns, n, rfl, hn, hnd, hl, hb, rfl⟩, q⟩ := h
    have e : Env (hide G H) (L2.start ["row", "points"] vs) [some (dL ns), some (.int (n : Int))] := env_start r
    refine ⟨_, pss_one (ps_ret (pe_and (pe_callB call_isi (by rfl) T.isi b_isi (pa_cons (pv 0) (pa_cons (pe_bltn (v := .ty "list") (by rfl) T.list b_list rfl) pa_nil)))
      (pe_and (pe_cmpR op_eq (pe_callB call_len_seq (by rfl) T.len b_len (pa_cons (pv 0) pa_nil)) (pv 1) (nomark _)) (pe_one (pe_cal C1 hr (by rfl) (pa_cons (pv 0) (pa_cons (pv 1) pa_nil))))))), ?_⟩
    refine gs_ret (gv_is (gv_and (gv_isiL (b := true) (gv_var rfl) (by decide +kernel)) fun _ => gv_and (gv_op (gv_cb (ga_1 (gv_var rfl)) gc_lenL) (gv_var rfl) g_eqI) fun _ => gv_call (ga_2 (gv_var rfl) (gv_var rfl)) ⟨ns, n, rfl, hnd, hl, hb, rfl⟩) ?_) fo e q
    rw [List.length_map, hn, decide_eq_true rfl]
    rfl
/-! ### turned -/
def pTurned : List PD → PD → Prop := fun ds d => ∃ (b : Ev.Blk) (k : Int) (n : Nat), (ds = [dL b, .int k, .int (n : Int)] ∨ ds = [dT b, .int k, .int (n : Int)]) ∧ 0 < n ∧ b.length < 64 ∧ d = dT (Ev.tn n k b)
theorem scT : FnScope ["block", "by", "n", "point"] ["block", "by", "n"] (defScope sTurned) := ⟨rfl, rfl, rfl, by decide +kernel, rfl, by decide +kernel, by decide +kernel⟩
theorem ok_turned {f : Addr} {fd : FuncData} (F : Fun K "turned" "turned" sTurned f fd) (T : Txt mg) : FnOk P w K mg base CX0 1 f fd ["block", "by", "n"] (spD pTurned) := by
  refine F.ok scT (fun vs H Q E h => ?_) (fun cdv A outer s H vs Q E hr h => ?_)
  · obtain ⟨G, ds, d, fo, r, ⟨b, k, n, hds, _⟩, q⟩ := h
    rcases hds with rfl | rfl
    · exact r.len
    · exact r.len
  · obtain ⟨G, ds, d, fo, r, ⟨b, k, n, hds, hn, hl, rfl⟩, q⟩ := h
    have hn' : (0 : Int) < n := by omega
    rcases hds with rfl | rfl
    · have e : Env (hide G H) (L2.start ["block", "by", "n", "point"] vs) [some (dL b), some (.int k), some (.int (n : Int)), none] := env_start r
      refine ⟨_, pss_one (ps_ret (pe_callTy call_tuple_of (by rfl) T.tuple b_tuple (pa_cons (pe_callB cr_sorted (by rfl) T.sorted b_sorted (pa_cons (pe_lc (own := [("point", 3)]) (g := gName 3) (tt := tYes) rfl scT.nd (pi_list (pv 0)) (blkOk_by (N := ["block", "by", "n", "point"]) (sc := defScope sTurned) (by decide +kernel))
        (fun _ _ _ _ _ => pg_name (i := 3) scT.nd rfl (Or.inl rfl)) (fun _ _ _ _ _ => pts_nil) (fun _ _ _ _ _ => pe_op op_mod (pe_op op_add (pv 3) (pv 1)) (pv 2))) pa_nil)) pa_nil))), ?_⟩
      refine gs_ret (gv_cb (ga_1 (gv_cb (ga_1 (gv_is (gv_lcA b PyData.int (fun i => .int ((i + k) % (n : Int))) (gi_list (gv_var rfl)) (by omega) (fun a ha => gv_op (gv_op (gv_var rfl) (gv_var rfl) g_I0) (gv_var rfl) (g_I hn'))) ?_)) (gc_sortI (ns := b.map fun p => (p + k) % (n : Int)) (by simpa using hl)))) gc_tuple) fo e q
      exact map_int _ _
    · have e : Env (hide G H) (L2.start ["block", "by", "n", "point"] vs) [some (dT b), some (.int k), some (.int (n : Int)), none] := env_start r
      refine ⟨_, pss_one (ps_ret (pe_callTy call_tuple_of (by rfl) T.tuple b_tuple (pa_cons (pe_callB cr_sorted (by rfl) T.sorted b_sorted (pa_cons (pe_lc (own := [("point", 3)]) (g := gName 3) (tt := tYes) rfl scT.nd (pi_tup (pv 0)) (blkOk_by (N := ["block", "by", "n", "point"]) (sc := defScope sTurned) (by decide +kernel))
        (fun _ _ _ _ _ => pg_name (i := 3) scT.nd rfl (Or.inl rfl)) (fun _ _ _ _ _ => pts_nil) (fun _ _ _ _ _ => pe_op op_mod (pe_op op_add (pv 3) (pv 1)) (pv 2))) pa_nil)) pa_nil))), ?_⟩
      refine gs_ret (gv_cb (ga_1 (gv_cb (ga_1 (gv_is (gv_lcA b PyData.int (fun i => .int ((i + k) % (n : Int))) (gi_tup (gv_var rfl)) (by omega) (fun a ha => gv_op (gv_op (gv_var rfl) (gv_var rfl) g_I0) (gv_var rfl) (g_I hn'))) ?_)) (gc_sortI (ns := b.map fun p => (p + k) % (n : Int)) (by simpa using hl)))) gc_tuple) fo e q
      exact map_int _ _
/-! ### sorted_layout -/
def pSortedL : List PD → PD → Prop := fun ds d => ∃ (n : Nat) (L : List Ev.Blk), ds = [dLay n L] ∧ d = dLay n (Ev.srtB L)
theorem scSL : FnScope ["layout"] ["layout"] (defScope sSortedL) := ⟨rfl, rfl, rfl, by decide +kernel, rfl, by decide +kernel, by decide +kernel⟩
theorem ok_sortedL {f : Addr} {fd : FuncData} (F : Fun K "sorted_layout" "sorted_layout" sSortedL f fd) (T : Txt mg) : FnOk P w K mg base CX0 1 f fd ["layout"] (spD pSortedL) := by
  refine F.ok scSL (fun vs H Q E h => ?_) (fun cdv A outer s H vs Q E hr h => ?_)
  · obtain ⟨G, ds, d, fo, r, ⟨n, L, rfl, _⟩, q⟩ := h
    exact r.len
  · obtain ⟨G, ds, d, fo, r, ⟨n, L, rfl, rfl⟩, q⟩ := h
    have e : Env (hide G H) (L2.start ["layout"] vs) [some (dLay n L)] := env_start r
    refine ⟨_, pss_one (ps_ret (pe_tup (pa_cons (pe_ix ix_tup (pv 0) pe_int (fun _ _ => rfl)) (pa_cons (pe_callTy call_tuple_of (by rfl) T.tuple b_tuple (pa_cons (pe_callB (cr_sortB (hu64 hr)) (by rfl) T.sorted b_sorted (pa_cons (pe_ix ix_tup (pv 0) pe_int (fun _ _ => rfl)) pa_nil)) pa_nil)) pa_nil)))), ?_⟩
    exact gs_ret (gv_tup (ga_2 (gv_op (gv_var rfl) gv_int (g_ixT (atI_nat (j := 0) rfl))) (gv_cb (ga_1 (gv_cb (ga_1 (gv_op (gv_var rfl) gv_int (g_ixT (atI_nat (j := 1) rfl)))) gc_sortBT)) gc_tuple)) (by simp)) fo e q
end
end EvW
-- part EvWalk2
namespace EvW
open PySem L2
theorem at_any {α : Type} {xs : List α} {z : Int} {j : Nat} {v : α} (e : z = (j : Int)) (h : xs[j]? = some v) : atI xs z = some v := by
  rw [e]
  exact atI_nat h
theorem bas_len {n : Nat} {b : Ev.Blk} (h : Ev.Bas n b) : b.length ≤ n := by
  have p := (Ev.ints_perm h).length_eq
  have q := List.length_filter_le (fun x => decide (x ∈ b)) ((List.range n).map fun i : Nat => (i : Int))
  rw [p] at q
  simpa using q
section
variable {Γ : Ctx} {t : TT} {ts : TS} {D : Ends} {σ : L2.St} {H : Hp} {F : Addr → Bool}
theorem gs_no1 (h : Gt t Γ false) (f : Fok F H) (e : Env (hide F H) σ Γ) (k : ∀ H', Ex H H' → Fok F H' → Env (hide F H') σ Γ → D.nx σ H') : tIfS t ts tNext D σ H := h σ H F f e _ fun H1 e1 => k H1 e1 (f.ex e1) (e.ex (hide_ex e1))
end
section
variable {P : Program} {w : World} {K : PySem.W.Frag} {mg : Str → Option Value} {base : Heap}
/-! ### check_bases -/
structure Good (n : Nat) (bases : List Ev.Blk) : Prop where
  n0 : 0 < n
  n13 : n ≤ 13
  few : bases.length ≤ 3
  bas : ∀ b ∈ bases, Ev.Bas n b
theorem Good.len {n : Nat} {bases : List Ev.Blk} (g : Good n bases) {b : Ev.Blk} (h : b ∈ bases) : b.length ≤ 13 := Nat.le_trans (bas_len (g.bas b h)) g.n13
abbrev dBs (bases : List Ev.Blk) : PD := .list (bases.map dL)
def pCheck : List PD → PD → Prop := fun ds d => ∃ (n : Nat) (bases : List Ev.Blk), ds = [.int (n : Int), dBs bases] ∧ Good n bases ∧ d = .none
theorem scC : FnScope ["n", "bases", "place"] ["n", "bases"] (defScope sCheck) := ⟨rfl, rfl, rfl, by decide +kernel, rfl, by decide +kernel, by decide +kernel⟩
theorem ok_check {f f1 f2 : Addr} {fd fd1 fd2 : FuncData} (F : Fun K "check_bases" "check_bases" sCheck f fd) (T : Txt mg) (C1 : Cal P w K mg base 1 "is_whole_numbers" ["thing"] (spD pWhole) f1 fd1) (C2 : Cal P w K mg base 3 "is_block" ["things", "points"] (spD pBlock) f2 fd2) :
    FnOk P w K mg base CX0 4 f fd ["n", "bases"] (spD pCheck) := by
  refine F.ok scC (fun vs H Q E h => ?_) (fun cdv A outer s H vs Q E hr h => ?_)
  · obtain ⟨G, ds, d, fo, r, ⟨n, bases, rfl, _⟩, q⟩ := h
    exact r.len
  · obtain ⟨G, ds, d, fo, r, ⟨n, bases, rfl, g, rfl⟩, q⟩ := h
    have e : Env (hide G H) (L2.start ["n", "bases", "place"] vs) [some (.int (n : Int)), some (dBs bases), none] := env_start r
    obtain ⟨tp, hmp⟩ := T.mp
    obtain ⟨tb, hmb⟩ := T.mb
    refine ⟨_, pss_cons (ps_if (PW.pt (pw_or (pt_not (pt_val (pe_cal C1 (hr.mono (by decide)) (by rfl) (pa_cons (pv 0) pa_nil)))) (pw_or (pt_not (pt_chain op_le op_le pe_int (pv 0) (pe_glob (v := .int 60) (by rfl) hmp ⟨tp, rfl⟩)))
        (pw_or1 (pt_cmpR op_gt (pe_op op_mul (pv 0) (pe_callB call_len_seq (by rfl) T.len b_len (pa_cons (pv 1) pa_nil))) (pe_glob (v := .int 200) (by rfl) hmb ⟨tb, rfl⟩) (nomark _)))))) pss_never pss_nil)
      (pss_cons (ps_for PassesOwn.never rfl (pi_range1 (by rfl) T.range (pa_cons (pe_callB call_len_seq (by rfl) T.len b_len (pa_cons (pv 1) pa_nil)) pa_nil)) (pg_name (i := 2) scC.nd rfl (Or.inl rfl))
        (pss_one (ps_if (pt_not (pt_val (pe_cal C2 hr (by rfl) (pa_cons (pe_ix ix_list (pv 1) (pv 2) (fun _ _ => rfl)) (pa_cons (pv 0) pa_nil))))) pss_never pss_nil))) pss_nil), ?_⟩
    have h1 : (decide ((1 : Int) ≤ (n : Int)) && decide ((n : Int) ≤ 60)) = true := by
      have := g.n0
      have := g.n13
      simp
      omega
    have h2 : decide ((200 : Int) < (n : Int) * ((bases.map dL).length : Int)) = false := by
      refine decide_eq_false ?_
      rw [List.length_map]
      have a1 : n * bases.length ≤ 13 * 3 := Nat.mul_le_mul g.n13 g.few
      have a2 : (n : Int) * (bases.length : Int) = ((n * bases.length : Nat) : Int) := by push_cast; rfl
      rw [a2]
      omega
    refine gs_no (gt_is (gt_or (gt_not (gt_B (gv_call (ga_1 (gv_var rfl)) ⟨n, rfl, rfl⟩))) fun _ => gt_or (gt_not (gt_test (gv_chain gv_int (gv_var rfl) gv_int g_B0 g_B0))) fun _ => gt_test (gv_op (gv_op (gv_var rfl) (gv_cb (ga_1 (gv_var rfl)) gc_lenL) (g_I (.inl ⟨by omega, by have := g.n13; omega⟩))) gv_int g_B0)) ?_) fo e fun H1 e1 f1 E1 => ?_
    · rw [h1, h2]
      rfl
    · refine gs_for (List.range bases.length) (fun i : Nat => .int (i : Int)) (fun _ => [some (.int (n : Int)), some (dBs bases), none]) (gi_r1 (ga_1 (gv_is (gv_cb (ga_1 (gv_var rfl)) gc_lenL) (by rw [List.length_map]))) (by have := g.few; omega)) f1 E1 (fun _ _ z => z) (fun i a ha σ' H' e' f' E' Nx Bk hN => ?_) (fun σ' H' e' f' E' => ?_)
      · have ei : a = i ∧ i < bases.length := by
          have hlt := (List.getElem?_eq_some_iff.mp ha).1
          rw [List.length_range] at hlt
          rw [List.getElem?_range hlt] at ha
          exact ⟨(Option.some.inj ha).symm, hlt⟩
        obtain ⟨rfl, hlt⟩ := ei
        have hb : bases[a]? = some bases[a] := List.getElem?_eq_getElem hlt
        have hm : bases[a] ∈ bases := List.getElem_mem hlt
        generalize bases[a] = b at hb hm
        have hbas := g.bas b hm
        refine gs_no1 (gt_is (gt_not (gt_B (gv_call (ga_2 (gv_op (gv_var rfl) (gv_var rfl) (g_ixL (d := dL b) (atI_nat (j := a) (by rw [List.getElem?_map, hb]; rfl)))) (gv_var rfl)) ⟨b, n, rfl, hbas.nd, by have := g.len hm; omega, hbas.bd, rfl⟩))) rfl) f' E' fun H2 e2 f2 E2 => ?_
        exact hN σ' H2 e2 (E2.less (i := 2))
      · exact q _ _ (e1.trans e') (rp_none.mpr rfl)
/-! ### renamed -/
def pRenamed : List PD → PD → Prop := fun ds d => ∃ (n : Nat) (L : List Ev.Blk) (g : Int → Int), ds = [dLay n L, dL ((List.range n).map fun i : Nat => g i)] ∧ n < 64 ∧ L.length ≤ 1000 ∧ (∀ b ∈ L, Ev.Can n b) ∧ Ev.Bas n ((List.range n).map fun i : Nat => g i) ∧ d = dLay n (L.map fun b => Ev.srt (b.map g))
def lcOf : Expr → Scope
  | .ListComp _ _ sc _ => sc
  | _ => defScope (.Pass ⟨0, 0, 0, 0⟩)
def scRn1 : Scope := match (defBody sRenamed).getD 2 (.Pass ⟨0, 0, 0, 0⟩) with
  | .Return (some (.Tuple [_, .Call _ [e] _ _] _ _)) _ => lcOf e
  | _ => defScope (.Pass ⟨0, 0, 0, 0⟩)
theorem scRn : FnScope ["layout", "row", "points", "blocks", "block", "point"] ["layout", "row"] (defScope sRenamed) := ⟨rfl, rfl, rfl, by decide +kernel, rfl, by decide +kernel, by decide +kernel⟩
theorem ok_renamed {f f1 : Addr} {fd fd1 : FuncData} (F : Fun K "renamed" "renamed" sRenamed f fd) (T : Txt mg) (C1 : Cal P w K mg base 4 "is_row" ["row", "points"] (spD pRow) f1 fd1) : FnOk P w K mg base CX0 5 f fd ["layout", "row"] (spD pRenamed) := by
  refine F.ok scRn (fun vs H Q E h => ?_) (fun cdv A outer s H vs Q E hr h => ?_)
  · obtain ⟨G, ds, d, fo, r, ⟨n, L, g, rfl, _⟩, q⟩ := h
    exact r.len
  · obtain ⟨G, ds, d, fo, r, ⟨n, L, g, rfl, hn, hL, hcan, hbas, rfl⟩, q⟩ := h
    have e : Env (hide G H) (L2.start ["layout", "row", "points", "blocks", "block", "point"] vs) [some (dLay n L), some (dL ((List.range n).map fun i : Nat => g i)), none, none, none, none] := env_start r
    refine ⟨_, pss_cons (ps_asg (pv 0) (pg_tup rfl (pgs_cons (pg_name (i := 2) scRn.nd rfl (Or.inl rfl)) (pgs_cons (pg_name (i := 3) scRn.nd rfl (Or.inl rfl)) pgs_nil))))
      (pss_cons (ps_if (pt_not (pt_val (pe_cal C1 hr (by rfl) (pa_cons (pv 1) (pa_cons (pv 2) pa_nil))))) pss_never pss_nil)
      (pss_one (ps_ret (pe_tup (pa_cons (pv 2) (pa_cons (pe_callTy call_tuple_of (by rfl) T.tuple b_tuple (pa_cons
        (pe_lc (own := [("block", 4)]) (g := gName 4) (tt := tYes) rfl scRn.nd (pi_tup (pv 3)) (blkOk_by (N := ["layout", "row", "points", "blocks", "block", "point"]) (sc := defScope sRenamed) (by decide +kernel))
          (fun _ _ _ _ _ => pg_name (i := 4) scRn.nd rfl (Or.inl rfl)) (fun _ _ _ _ _ => pts_nil) (fun _ _ _ _ _ => pe_callTy (call_tupleK rfl) (by rfl) T.tuple b_tuple (pa_cons (pe_callB (cr_sortedK rfl) (by rfl) T.sorted b_sorted (pa_cons
            (pe_lc (own := [("point", 5)]) (g := gName 5) (tt := tYes) rfl scRn.nd (pi_tupK rfl (pv 4)) (blkOk_by (N := ["layout", "row", "points", "blocks", "block", "point"]) (sc := relS scRn1 (defScope sRenamed)) (by decide +kernel))
              (fun _ _ _ _ _ => pg_name (i := 5) scRn.nd rfl (Or.inl rfl)) (fun _ _ _ _ _ => pts_nil) (fun _ _ _ _ _ => pe_ix (ix_listK rfl) (pv 1) (pv 5) (fun _ _ => rfl))) pa_nil)) pa_nil))) pa_nil)) pa_nil)))))), ?_⟩
    refine gs_asg2 (gv_var rfl) fo e fun σ1 H1 e1 f1 E1 => ?_
    refine gs_no (gt_is (gt_not (gt_B (gv_call (ga_2 (gv_var rfl) (gv_var rfl)) ⟨_, n, rfl, by simp, hbas.nd, by simpa using hn, hbas.bd, rfl⟩))) rfl) f1 E1 fun H2 e2 f2 E2 => ?_
    refine gs_ret (gv_tup (ga_2 (gv_var rfl) (gv_cb (ga_1 (gv_is (gv_lcA L dT (fun b => dT (Ev.srt (b.map g))) (gi_tup (gv_var rfl)) hL (fun b hb => gv_cb (ga_1 (gv_cb (ga_1 (gv_is (gv_lcA b PyData.int (fun p => .int (g p)) (gi_tup (gv_var rfl)) (by have := bas_len (hcan b hb).bas; omega) (fun p hp => gv_op (gv_var rfl) (gv_var rfl) (g_ixL (d := .int (g p)) ?_))) (map_int _ _))) (gc_sortI (ns := b.map g) (by have := bas_len (hcan b hb).bas; rw [List.length_map]; omega)))) gc_tuple)) (map_tup _ _))) gc_tuple)) (by simp)) f2 E2 fun v H' e' r' => q v H' ((e1.trans e2).trans e') r'
    · have hp' := (hcan b hb).bd p hp
      refine at_any (j := p.toNat) (by omega) ?_
      rw [List.getElem?_map, List.getElem?_map, List.getElem?_range (by omega)]
      show some (PyData.int (g ((p.toNat : Nat) : Int))) = some (.int (g p))
      rw [Int.toNat_of_nonneg hp'.1]
end
end EvW
-- part EvCalc3
namespace EvW
open PySem L2
/-! ### objects of the def's own that change: S -/
def un (F S : Addr → Bool) : Addr → Bool := fun a => F a || S a
def Exs (S : Addr → Bool) (H H' : Hp) : Prop := ∀ a x, S a = false → H a = some x → H' a = some x
def one (o : Addr) : Addr → Bool := fun a => decide (a = o)
def two (o p : Addr) : Addr → Bool := fun a => decide (a = o) || decide (a = p)
section
variable {F S : Addr → Bool} {H H1 H' : Hp} {a o p : Addr} {x : HO}
theorem un_no (h : un F S a = false) : F a = false ∧ S a = false := by
  unfold un at h
  exact Bool.or_eq_false_iff.mp h
theorem un_yes (h : S a = true) : un F S a = true := by
  unfold un
  rw [h, Bool.or_true]
theorem Exs.refl : Exs S H H := fun _ _ _ h => h
theorem Exs.trans (a : Exs S H H1) (b : Exs S H1 H') : Exs S H H' := fun c o hs h => b c o hs (a c o hs h)
theorem Ex.exs (e : Ex H H') : Exs S H H' := fun a o _ h => e a o h
theorem Exs.hide (e : Exs S H H') : Ex (hide (un F S) H) (hide (un F S) H') := fun a o h => by
  obtain ⟨h1, h2⟩ := hide_some h
  rw [hide_no h1]
  exact e a o (un_no h1).2 h2
theorem Exs.upd (h : S o = true) : Exs S H (upd H o x) := fun a u hs e => by
  rw [upd_ne (fun z => by rw [z, h] at hs; cases hs)]
  exact e
/-- what S changes was not there -/
theorem Exs.ex {H0 : Hp} (e : Exs S H H') (e0 : Ex H0 H) (h : ∀ a, S a = true → H0 a = none) : Ex H0 H' := fun a u hu => by
  refine e a u ?_ (e0 a u hu)
  cases q : S a with
  | false => rfl
  | true => rw [h a q] at hu; cases hu
theorem hide_un_in : Ex (hide (un F S) H) (hide F H) := fun a o h => by
  obtain ⟨h1, h2⟩ := hide_some h
  rw [hide_no (un_no h1).1]
  exact h2
theorem hide_un_upd (h : S o = true) : hide (un F S) (upd H o x) = hide (un F S) H := by
  funext a
  unfold hide
  by_cases e : a = o
  · rw [e, un_yes h, if_pos rfl, if_pos rfl]
  · rw [upd_ne e]
/-- nothing of S is there yet -/
theorem hide_un_new (h : ∀ a, S a = true → H a = none) : hide (un F S) H = hide F H := by
  funext a
  unfold hide un
  cases q : S a with
  | false => rw [Bool.or_false]
  | true =>
    rw [Bool.or_true, if_pos rfl, h a q]
    split <;> rfl
/-- is there, is no tuple -/
def Lay (H : Hp) (a : Addr) : Prop := ∃ x, H a = some x ∧ ∀ xs, x ≠ .tup xs
theorem Lay.mk {x : HO} (h : H a = some x) (ht : ∀ xs, x ≠ .tup xs) : Lay H a := ⟨x, h, ht⟩
theorem fok_un (f : Fok F H) (h : ∀ a, S a = true → Lay H a) : Fok (un F S) H := fun a ha => by
  unfold un at ha
  cases q : S a with
  | true => exact h a q
  | false =>
    rw [q, Bool.or_false] at ha
    exact f a ha
theorem Fok.exs (f : Fok F H) (e : Exs S H H') (h : ∀ a, S a = true → Lay H' a) : Fok F H' := fun a ha => by
  cases q : S a with
  | true => exact h a q
  | false =>
    obtain ⟨x, h1, h2⟩ := f a ha
    exact ⟨x, e a x q h1, h2⟩
/-- what the objects of S were ahead of their making stays known -/
theorem hide_un_ex (e : Ex H H') (h : ∀ a, S a = true → H a = none) : Ex (hide F H) (hide (un F S) H') := fun a o ho => by
  obtain ⟨h1, h2⟩ := hide_some ho
  have h3 : S a = false := by
    cases q : S a with
    | false => rfl
    | true => rw [h a q] at h2; cases h2
  rw [hide_no (by unfold un; rw [h1, h3]; rfl)]
  exact e a o h2
theorem one_self : one o o = true := by simp [one]
theorem one_iff : one o a = true ↔ a = o := by simp [one]
theorem two_l : two o p o = true := by simp [two]
theorem two_r : two o p p = true := by simp [two]
theorem two_iff : two o p a = true ↔ a = o ∨ a = p := by simp [two]
theorem Env.know {σ : L2.St} {Γ : Ctx} {i : Nat} {v : V} {d : PD} (h : Env H σ Γ) (hv : σ[i]? = some (some v)) (r : Rp H d v) : Env H σ (Γ.set i (some d)) := ⟨by rw [List.length_set]; exact h.1, fun j d' hj => by
  rw [List.getElem?_set] at hj
  by_cases e : i = j
  · rw [if_pos e] at hj
    split at hj
    · cases hj
      exact ⟨v, e ▸ hv, r⟩
    · cases hj
  · rw [if_neg e] at hj
    exact h.2 j d' hj⟩
/-- tuples of ints survive whatever changes -/
theorem rp_dT_keep {ns : List Int} {v : V} (h : Rp H (dT ns) v) (k : ∀ b xs, H b = some (.tup xs) → H' b = some (.tup xs)) : Rp H' (dT ns) v := by
  obtain ⟨a, e1, e2⟩ := rp_dT.mp h
  exact rp_dT.mpr ⟨a, e1, k _ _ e2⟩
theorem set_ne {σ : L2.St} {i j : Nat} {x : Option V} {v : Option V} (h : j ≠ i) (hv : σ[i]? = some v) : (σ.set j x)[i]? = some v := by
  rw [List.getElem?_set_ne h]
  exact hv
end
/-- a for whose turns change slots and the objects of S; Ct tells of these -/
theorem gs_forM {α : Type} {wi : TI} {j : Nat} {Γ0 Γc : Ctx} {tb rest : TS} {D : Ends} {σ : L2.St} {H : Hp} {F S : Addr → Bool} (as : List α) (fd : α → PD) (Ct : Nat → L2.St → Hp → Prop) (hi : Gi wi Γ0 (as.map fd)) (f : Fok F H)
    (hS : ∀ i σ' H', Ct i σ' H' → ∀ a, S a = true → Lay H' a) (e : Env (hide (un F S) H) σ Γ0) (hΓ : ∀ (H' : Hp) (σ' : L2.St), Env H' σ' Γ0 → Env H' σ' Γc) (hC : ∀ i (σ' : L2.St) H' x, Ct i σ' H' → Ct i (σ'.set j x) H') (hE : ∀ i (σ' : L2.St) H' H'', Ct i σ' H' → Ex H' H'' → Ct i σ' H'') (c0 : Ct 0 σ H)
    (hs : ∀ (i : Nat) (a : α), as[i]? = some a → ∀ (σ' : L2.St) (H' : Hp), Exs S H H' → Fok (un F S) H' → Env (hide (un F S) H') σ' (Γc.set j (some (fd a))) → Ct i σ' H' →
      ∀ (Nx Bk : L2.St → Hp → Prop), (∀ σ2 H2, Exs S H' H2 → Env (hide (un F S) H2) σ2 Γc → Ct (i + 1) σ2 H2 → Nx σ2 H2) → tb { D with nx := Nx, ct := Nx, bk := Bk } σ' H')
    (k : ∀ σ' H', Exs S H H' → Fok (un F S) H' → Env (hide (un F S) H') σ' Γc → Ct as.length σ' H' → rest D σ' H') : tSeq (tFor wi (gName j) tb) rest D σ H :=
  hi σ H (un F S) (fok_un f (hS _ _ _ c0)) e _ fun J H1 e1 hy => by
    refine ⟨fun i m σ' H' => i + m = as.length ∧ Exs S H1 H' ∧ Env (hide (un F S) H') σ' Γc ∧ Ct i σ' H', ⟨as.length, by omega, Exs.refl, hΓ _ _ (e.ex (hide_ex e1)), hE _ _ _ _ c0 e1⟩, ?_⟩
    rintro i m σ' H' ⟨him, e', E', c'⟩
    have hyi := hy i H' (fun a x h => (Exs.hide e' (F := F) a x h) |> fun z => hide_in _ _ z)
    have f' : Fok (un F S) H' := fok_un ((f.ex e1).exs e' (hS _ _ _ c')) (hS _ _ _ c')
    have e'' : Exs S H H' := (Ex.exs e1).trans e'
    by_cases hlt : i < as.length
    · obtain ⟨hgo, hyld⟩ := hyi.1 (by simpa using hlt)
      refine .inr ⟨hgo, fun σ2 H2 => Exs S H1 H2 ∧ Env (hide (un F S) H2) σ2 Γc ∧ Ct (i + 1) σ2 H2, fun σ2 H2 ⟨h1, h2⟩ => ⟨m - 1, by omega, by omega, h1, h2⟩, fun x H3 hx => ?_⟩
      obtain ⟨rfl, d, hd, hrx⟩ := hyld x H3 hx
      have ha : as[i]? = some as[i] := List.getElem?_eq_getElem hlt
      have hd' : d = fd as[i] := by
        rw [List.getElem?_map, ha] at hd
        exact (Option.some.inj hd).symm
      subst hd'
      exact hs i _ ha _ H3 e'' f' (E'.set (hrx.ex (Exs.hide e'))) (hC _ _ _ _ c') _ _ fun σ2 H2 h1 h2 h3 => ⟨e'.trans h1, h2, h3⟩
    · have hl : i = as.length := by omega
      subst hl
      exact .inl ⟨hyi.2 (by simp), k σ' H' e'' f' E' c'⟩
end EvW
-- part EvWalk3
namespace EvW
open PySem L2
theorem ixN_at {n : Nat} {i : Int} (h0 : 0 ≤ i) (h1 : i < n) : ixN n i = some i.toNat := by
  unfold ixN
  rw [if_pos h0, if_pos h1]
theorem dev_take {n : Nat} {bases : List Ev.Blk} {i : Nat} {b : Ev.Blk} (h : bases[i]? = some b) : Ev.dev n (bases.take (i + 1)) = Ev.dev n (bases.take i) ++ Ev.orb n b := by
  unfold Ev.dev
  rw [List.take_succ, h, List.flatMap_append]
  simp
theorem flatMap_take {α β : Type} {l : List α} {f : α → List β} {i : Nat} {a : α} (h : l[i]? = some a) : (l.take (i + 1)).flatMap f = (l.take i).flatMap f ++ f a := by
  rw [List.take_succ, h, List.flatMap_append]
  simp
theorem map_take1 {α β : Type} {l : List α} {f : α → β} {i : Nat} {a : α} (h : l[i]? = some a) : (l.take (i + 1)).map f = (l.take i).map f ++ [f a] := by
  rw [List.take_succ, h, List.map_append]
  rfl
section
variable {P : Program} {w : World} {K : PySem.W.Frag} {mg : Str → Option Value} {base : Heap}
/-! ### developed -/
def pDev : List PD → PD → Prop := fun ds d => ∃ (n : Nat) (bases : List Ev.Blk), ds = [.int (n : Int), dBs bases] ∧ Good n bases ∧ d = dLay n (Ev.dev n bases)
theorem scD : FnScope ["n", "bases", "blocks", "base", "by"] ["n", "bases"] (defScope sDeveloped) := ⟨rfl, rfl, rfl, by decide +kernel, rfl, by decide +kernel, by decide +kernel⟩
theorem ok_developed {f f1 f2 : Addr} {fd fd1 fd2 : FuncData} (F : Fun K "developed" "developed" sDeveloped f fd) (T : Txt mg) (C1 : Cal P w K mg base 4 "check_bases" ["n", "bases"] (spD pCheck) f1 fd1) (C2 : Cal P w K mg base 1 "turned" ["block", "by", "n"] (spD pTurned) f2 fd2) :
    FnOk P w K mg base CX0 5 f fd ["n", "bases"] (spD pDev) := by
  refine F.ok scD (fun vs H Q E h => ?_) (fun cdv A outer s H vs Q E hr h => ?_)
  · obtain ⟨G, ds, d, fo, r, ⟨n, bases, rfl, _⟩, q⟩ := h
    exact r.len
  · obtain ⟨G, ds, d, fo, r, ⟨n, bases, rfl, g, rfl⟩, q⟩ := h
    have e : Env (hide G H) (L2.start ["n", "bases", "blocks", "base", "by"] vs) [some (.int (n : Int)), some (dBs bases), none, none, none] := env_start r
    have hr1 := hr.mono (show 1 ≤ 4 by decide)
    refine ⟨_, pss_cons (ps_expr (pe_cal C1 hr (by rfl) (pa_cons (pv 0) (pa_cons (pv 1) pa_nil))))
      (pss_cons (ps_set (i := 2) scD.nd rfl (Or.inl rfl) (pe_lst pa_nil))
      (pss_cons (ps_for PassesOwn.never rfl (pi_list (pv 1)) (pg_name (i := 3) scD.nd rfl (Or.inr rfl))
        (pss_one (ps_expr (pe_bm PySem.F.plainAttrs_list PySem.F.slot_list_extend PySem.F.type_list_extend mt_extend (pv 2) (pa_cons
          (pe_lc (own := [("by", 4)]) (g := gName 4) (tt := tYes) rfl scD.nd (pi_range1 (by rfl) T.range (pa_cons (pv 0) pa_nil)) (blkOk_by (N := ["n", "bases", "blocks", "base", "by"]) (sc := defScope sDeveloped) (by decide +kernel))
            (fun _ _ _ _ _ => pg_name (i := 4) scD.nd rfl (Or.inl rfl)) (fun _ _ _ _ _ => pts_nil) (fun _ _ _ _ _ => pe_cal C2 hr1 (by rfl) (pa_cons (pv 3) (pa_cons (pv 4) (pa_cons (pv 0) pa_nil))))) pa_nil)))))
      (pss_one (ps_ret (pe_tup (pa_cons (pv 0) (pa_cons (pe_callTy call_tuple_of (by rfl) T.tuple b_tuple (pa_cons (pv 2) pa_nil)) pa_nil))))))), ?_⟩
    refine gs_drop (gv_call (ga_2 (gv_var rfl) (gv_var rfl)) ⟨n, bases, rfl, g, rfl⟩) fo e fun H1 e1 f1 E1 => ?_
    refine ⟨Nat.zero_le _, fun o no => ?_⟩
    have hGo : G o = false := f1.no no
    have hnew : ∀ a, one o a = true → H1 a = none := fun a ha => by rw [one_iff.mp ha]; exact no
    have E2 : Env (hide (un G (one o)) (upd H1 o (.lst []))) ((L2.start ["n", "bases", "blocks", "base", "by"] vs).set 2 (some (.ref o))) [some (.int (n : Int)), some (dBs bases), none, none, none] := by
      rw [hide_un_upd one_self, hide_un_new hnew]
      exact E1.drop (i := 2) _
    have hlen2 : ((L2.start ["n", "bases", "blocks", "base", "by"] vs).set 2 (some (.ref o)))[2]? = some (some (V.ref o)) := by
      have hl := E1.1
      exact List.getElem?_set_self (by rw [hl]; simp)
    have eb : Ex H (upd H1 o (.lst [])) := e1.trans (Ex.new no)
    refine gs_forM (F := G) (S := one o) bases dL (fun i σ' H' => σ'[2]? = some (some (V.ref o)) ∧ ∃ xs, H' o = some (.lst xs) ∧ RpA (hide (un G (one o)) H') ((Ev.dev n (bases.take i)).map dT) xs)
      (gi_list (gv_var rfl)) (f1.ex (Ex.new no)) (fun i σ' H' ⟨_, xs, ho, _⟩ a ha => by rw [one_iff.mp ha]; exact .mk ho (fun _ z => by cases z)) E2 (fun _ _ z => z) (fun i σ' H' x ⟨h1, h2⟩ => ⟨set_ne (by decide) h1, h2⟩)
      (fun i σ' H' H'' ⟨h1, xs, h2, h3⟩ e' => ⟨h1, xs, e' _ _ h2, h3.ex (hide_ex e')⟩) ⟨hlen2, [], upd_same, rpa_nil.mpr rfl⟩ (fun i b hb σ' H' e' f' E' ⟨hσ, xs, ho, hx⟩ Nx Bk hN => ?_) (fun σ' H' e' f' E' ⟨hσ, xs, ho, hx⟩ => ?_)
    · have hbm : b ∈ bases := List.mem_of_getElem? hb
      refine ⟨.ref o, hσ, .inl ⟨rfl, xs, SqL.of ho⟩, ?_⟩
      refine (gv_is (gv_lcA (List.range n) (fun i : Nat => .int (i : Int)) (fun i : Nat => dT (Ev.tn n i b)) (gi_r1 (ga_1 (gv_var rfl)) (by have := g.n13; omega)) (by rw [List.length_range]; have := g.n13; omega)
        (fun k _ => gv_call (ga_3 (gv_var rfl) (gv_var rfl) (gv_var rfl)) ⟨b, (k : Int), n, .inl rfl, g.n0, by have := g.len hbm; omega, rfl⟩)) (map_tup _ _)) σ' H' (un G (one o)) f' E' _ fun v H2 e2 r2 => ?_
      obtain ⟨a, ys, rfl, h3, h4⟩ := rp_list.mp r2
      have hl1 := hx.len
      have hl2 := h4.len
      have hz : xs.length + ys.length ≤ 1000 := by
        rw [hl1, hl2, List.length_map, List.length_map, List.length_map, List.length_range, Ev.dev_len]
        have a1 : (bases.take i).length ≤ 3 := Nat.le_trans (by rw [List.length_take]; exact Nat.min_le_right _ _) g.few
        have a2 : (bases.take i).length * n ≤ 3 * 13 := Nat.mul_le_mul a1 g.n13
        have := g.n13
        omega
      show rExtend (.ref o) [.ref a] H2 (fun _ H1 => Nx σ' H1)
      refine ⟨o, a, xs, ys, rfl, rfl, e2 _ _ ho, hide_in _ _ h3, by rw [sizeLine_eq]; omega, hN _ _ ((Ex.exs e2).trans (Exs.upd one_self)) ?_ ⟨hσ, _, upd_same, ?_⟩⟩
      · rw [hide_un_upd one_self]
        exact (E'.ex (hide_ex e2)).less (i := 3)
      · rw [hide_un_upd one_self, dev_take hb, List.map_append]
        exact (hx.ex (hide_ex e2)).append h4
    · have fG : Fok G H' := fun a ha => f' a (by unfold un; rw [ha]; rfl)
      rw [List.take_length] at hx
      have E3 : Env (hide G H') σ' [some (.int (n : Int)), some (dBs bases), some (.list ((Ev.dev n bases).map dT)), none, none] :=
        (E'.ex hide_un_in).know (i := 2) hσ (rp_list.mpr ⟨o, xs, rfl, hide_at hGo ho, hx.ex hide_un_in⟩)
      exact gs_ret (gv_tup (ga_2 (gv_var rfl) (gv_cb (ga_1 (gv_var rfl)) gc_tuple)) (by simp)) fG E3 fun v H3 e3 r3 => q v H3 ((Exs.ex e' eb fun a ha => e1.back (hnew a ha)).trans e3) r3
/-! ### differences -/
def pDiffs : List PD → PD → Prop := fun ds d => ∃ (n : Nat) (bases : List Ev.Blk), ds = [.int (n : Int), dBs bases] ∧ Good n bases ∧ d = dL (Ev.diffs n bases)
theorem scDf : FnScope ["n", "bases", "found", "base", "one", "other"] ["n", "bases"] (defScope sDiffs) := ⟨rfl, rfl, rfl, by decide +kernel, rfl, by decide +kernel, by decide +kernel⟩
theorem ok_diffs {f f1 : Addr} {fd fd1 : FuncData} (F : Fun K "differences" "differences" sDiffs f fd) (T : Txt mg) (C1 : Cal P w K mg base 4 "check_bases" ["n", "bases"] (spD pCheck) f1 fd1) : FnOk P w K mg base CX0 5 f fd ["n", "bases"] (spD pDiffs) := by
  refine F.ok scDf (fun vs H Q E h => ?_) (fun cdv A outer s H vs Q E hr h => ?_)
  · obtain ⟨G, ds, d, fo, r, ⟨n, bases, rfl, _⟩, q⟩ := h
    exact r.len
  · obtain ⟨G, ds, d, fo, r, ⟨n, bases, rfl, g, rfl⟩, q⟩ := h
    have e : Env (hide G H) (L2.start ["n", "bases", "found", "base", "one", "other"] vs) [some (.int (n : Int)), some (dBs bases), none, none, none, none] := env_start r
    have hn0 := g.n0
    have hn13 := g.n13
    refine ⟨_, pss_cons (ps_expr (pe_cal C1 hr (by rfl) (pa_cons (pv 0) (pa_cons (pv 1) pa_nil))))
      (pss_cons (ps_set (i := 2) scDf.nd rfl (Or.inl rfl) (pe_op op_rep (pe_lst (pa_cons pe_int pa_nil)) (pv 0)))
      (pss_cons (ps_for PassesOwn.never rfl (pi_list (pv 1)) (pg_name (i := 3) scDf.nd rfl (Or.inl rfl))
        (pss_cons (ps_for PassesOwn.never rfl (pi_list (pv 3)) (pg_name (i := 4) scDf.nd rfl (Or.inl rfl))
          (pss_cons (ps_for PassesOwn.never rfl (pi_list (pv 3)) (pg_name (i := 5) scDf.nd rfl (Or.inl rfl))
            (pss_one (ps_asg (pe_op op_add (pe_ix ix_list (pv 2) (pe_op op_mod (pe_op op_sub (pv 4) (pv 5)) (pv 0)) (fun _ _ => rfl)) pe_int) (pg_sub (pv 2) (pe_op op_mod (pe_op op_sub (pv 4) (pv 5)) (pv 0)) set_list))))
            pss_nil)) pss_nil))
      (pss_one (ps_ret (pe_slice sl_list (pv 2) (po_some pe_int) po_none))))), ?_⟩
    refine gs_drop (gv_call (ga_2 (gv_var rfl) (gv_var rfl)) ⟨n, bases, rfl, g, rfl⟩) fo e fun H1 e1 f1 E1 => ?_
    -- found = [0] * n
    obtain ⟨v0, hv0, hv1⟩ := E1.2 0 _ rfl
    rw [rp_int] at hv1
    subst hv1
    refine ⟨by rw [sizeLine_eq]; show 1 ≤ _; omega, fun p np => ⟨.int (n : Int), hv0, p, (n : Int), [.int 0], rfl, rfl, upd_same, by omega, by omega, by rw [sizeLine_eq]; show 1 * _ ≤ _; omega, fun o no' => ?_⟩⟩
    generalize hH2 : upd H1 p (.lst [.int 0]) = H2 at no' ⊢
    have e2 : Ex H1 H2 := by rw [← hH2]; exact Ex.new np
    have no : H1 o = none := e2.back no'
    have f2 := f1.ex e2
    have E1' : Env (hide G H2) _ _ := E1.ex (hide_ex e2)
    have hGo : G o = false := f2.no no'
    have hnew : ∀ a, one o a = true → H2 a = none := fun a ha => by rw [one_iff.mp ha]; exact no'
    have h0 : (List.replicate (n : Int).toNat [V.int 0]).flatten = (Ev.hist n []).map V.int := by
      rw [Ev.hist_nil, Int.toNat_natCast, List.map_replicate]
      induction n with
      | zero => rfl
      | succ k ih => rw [List.replicate_succ, List.flatten_cons, List.replicate_succ, List.flatten_replicate_singleton]; rfl
    rw [h0]
    have E2 : Env (hide (un G (one o)) (upd H2 o (.lst ((Ev.hist n []).map V.int)))) ((L2.start ["n", "bases", "found", "base", "one", "other"] vs).set 2 (some (.ref o))) [some (.int (n : Int)), some (dBs bases), none, none, none, none] := by
      rw [hide_un_upd one_self, hide_un_new hnew]
      exact E1'.drop (i := 2) _
    have hlen2 : ((L2.start ["n", "bases", "found", "base", "one", "other"] vs).set 2 (some (.ref o)))[2]? = some (some (V.ref o)) := by
      have hl := E1.1
      exact List.getElem?_set_self (by rw [hl]; simp)
    have eb : Ex H (upd H2 o (.lst ((Ev.hist n []).map V.int))) := (e1.trans e2).trans (Ex.new no')
    have hSS : ∀ (D : Nat → List Int) (i : Nat) (σ' : L2.St) (H' : Hp), (σ'[2]? = some (some (V.ref o)) ∧ H' o = some (.lst ((Ev.hist n (D i)).map V.int))) → ∀ a, one o a = true → Lay H' a := fun D i σ' H' h a ha => by rw [one_iff.mp ha]; exact .mk h.2 (fun _ z => by cases z)
    refine gs_forM (F := G) (S := one o) bases dL (fun i σ' H' => σ'[2]? = some (some (V.ref o)) ∧ H' o = some (.lst ((Ev.hist n (Ev.DL n (bases.take i))).map V.int)))
      (gi_list (gv_var rfl)) (f2.ex (Ex.new no')) (hSS _) E2 (fun _ _ z => z) (fun i σ' H' x ⟨h1, h2⟩ => ⟨set_ne (by decide) h1, h2⟩)
      (fun i σ' H' H'' ⟨h1, h2⟩ e' => ⟨h1, e' _ _ h2⟩) ⟨hlen2, upd_same⟩ (fun i b hb σ3 H3 e3 f3 E3 ⟨hσ3, ho3⟩ Nx Bk hN => ?_) (fun σ' H' e' f' E' ⟨hσ, ho⟩ => ?_)
    · have hbm : b ∈ bases := List.mem_of_getElem? hb
      have fG3 : Fok G H3 := fun a ha => f3 a (by unfold un; rw [ha]; rfl)
      refine gs_forM (F := G) (S := one o) b PyData.int (fun k σ' H' => σ'[2]? = some (some (V.ref o)) ∧ H' o = some (.lst ((Ev.hist n (Ev.DL n (bases.take i) ++ (b.take k).flatMap fun x => b.map fun y => (x - y) % (n : Int))).map V.int)))
        (gi_list (gv_var rfl)) fG3 (hSS _) E3 (fun _ _ z => z) (fun i σ' H' x ⟨h1, h2⟩ => ⟨set_ne (by decide) h1, h2⟩)
        (fun i σ' H' H'' ⟨h1, h2⟩ e' => ⟨h1, e' _ _ h2⟩) ⟨hσ3, by simpa using ho3⟩ (fun k x hx σ4 H4 e4 f4 E4 ⟨hσ4, ho4⟩ Nx2 Bk2 hN2 => ?_) (fun σ4 H4 e4 f4 E4 ⟨hσ4, ho4⟩ => ?_)
      · have fG4 : Fok G H4 := fun a ha => f4 a (by unfold un; rw [ha]; rfl)
        refine gs_forM (F := G) (S := one o) b PyData.int (fun l σ' H' => σ'[2]? = some (some (V.ref o)) ∧ H' o = some (.lst ((Ev.hist n ((Ev.DL n (bases.take i) ++ (b.take k).flatMap fun x => b.map fun y => (x - y) % (n : Int)) ++ (b.take l).map fun y => (x - y) % (n : Int))).map V.int)))
          (gi_list (gv_var rfl)) fG4 (hSS _) E4 (fun _ _ z => z) (fun i σ' H' x ⟨h1, h2⟩ => ⟨set_ne (by decide) h1, h2⟩)
          (fun i σ' H' H'' ⟨h1, h2⟩ e' => ⟨h1, e' _ _ h2⟩) ⟨hσ4, by simpa using ho4⟩ (fun l y hy σ5 H5 e5 f5 E5 ⟨hσ5, ho5⟩ Nx3 Bk3 hN3 => ?_) (fun σ5 H5 e5 f5 E5 ⟨hσ5, ho5⟩ => ?_)
        · -- found[(one - other) % n] = found[(one - other) % n] + 1
          generalize hD : (Ev.DL n (bases.take i) ++ (b.take k).flatMap fun x => b.map fun y => (x - y) % (n : Int)) ++ (b.take l).map (fun y => (x - y) % (n : Int)) = D at ho5
          have d0 : 0 ≤ (x - y) % (n : Int) := Int.emod_nonneg _ (by omega)
          have d1 : (x - y) % (n : Int) < n := Int.emod_lt_of_pos _ (by omega)
          have gidx : ∀ {Γ : Ctx}, Γ[0]? = some (some (.int (n : Int))) → Γ[4]? = some (some (.int x)) → Γ[5]? = some (some (.int y)) → Gv (tOp (rI (fun _ j => 0 < j) fun i j => .int (i % j)) (tOp (rI0 fun i j => .int (i - j)) (tVar 4) (tVar 5)) (tVar 0)) Γ (.int ((x - y) % (n : Int))) :=
            fun h1 h2 h3 => gv_op (gv_op (gv_var h2) (gv_var h3) g_I0) (gv_var h1) (g_I (by omega))
          refine ⟨.ref o, hσ5, gidx rfl rfl rfl σ5 H5 _ f5 E5 _ fun v H6 e6 r6 => ?_⟩
          rw [rp_int.mp r6]
          have hat : ((Ev.hist n D).map V.int)[((x - y) % (n : Int)).toNat]? = some (.int ((D.count ((x - y) % (n : Int)) : Nat) : Int)) := by
            rw [List.getElem?_map, Ev.hist_get (by omega)]
            show some (V.int ((D.count ((((x - y) % (n : Int)).toNat : Nat) : Int) : Nat) : Int)) = _
            rw [Int.toNat_of_nonneg d0]
          refine ⟨o, _, _, _, rfl, rfl, SqL.of (e6 _ _ ho5), at_any (j := ((x - y) % (n : Int)).toNat) (by omega) hat, ?_⟩
          refine ⟨_, _, rfl, rfl, .ref o, hσ5, gidx rfl rfl rfl σ5 H6 _ (f5.ex e6) (E5.ex (hide_ex e6)) _ fun v2 H7 e7 r7 => ?_⟩
          rw [rp_int.mp r7]
          refine ⟨o, _, _, ((x - y) % (n : Int)).toNat, rfl, rfl, e7 _ _ (e6 _ _ ho5), ?_, hN3 _ _ (((Ex.exs e6).trans (Ex.exs e7)).trans (Exs.upd one_self)) ?_ ⟨hσ5, ?_⟩⟩
          · refine ixN_at d0 ?_
            rw [List.length_map, Ev.hist_len]
            exact d1
          · rw [hide_un_upd one_self]
            exact (E5.ex (hide_ex (e6.trans e7))).less (i := 5)
          · rw [upd_same, map_take1 hy, ← List.append_assoc, hD, Ev.hist_snoc d0 d1, List.map_set]
        · rw [List.take_length] at ho5
          refine hN2 _ _ e5 (E5.less (i := 4)) ⟨hσ5, ?_⟩
          rw [ho5, flatMap_take hx, List.append_assoc]
      · rw [List.take_length] at ho4
        refine hN _ _ e4 (E4.less (i := 3)) ⟨hσ4, ?_⟩
        rw [ho4]
        unfold Ev.DL
        rw [flatMap_take hb]
        rfl
    · have fG : Fok G H' := fun a ha => f' a (by unfold un; rw [ha]; rfl)
      rw [List.take_length] at ho
      have E3 : Env (hide G H') σ' [some (.int (n : Int)), some (dBs bases), some (dL (Ev.hist n (Ev.DL n bases))), none, none, none] :=
        (E'.ex hide_un_in).know (i := 2) hσ (rp_dL.mpr ⟨o, rfl, hide_at hGo ho⟩)
      refine gs_ret (gv_is (gv_drop1 (gv_var rfl)) ?_) fG E3 fun v H3 e3 r3 => q v H3 ((Exs.ex e' eb fun a ha => e1.back (e2.back (hnew a ha))).trans e3) r3
      show PyData.list (List.drop 1 ((Ev.hist n (Ev.DL n bases)).map .int)) = .list ((Ev.diffs n bases).map .int)
      unfold Ev.diffs
      rw [List.map_drop]
end
end EvW
-- part EvWalk4
namespace EvW
open PySem L2
/-! ### tables in the heap -/
abbrev kOf (b : Ev.Blk) : List L2.Key := b.map Sum.inl
theorem kOf_inj {a b : Ev.Blk} (h : kOf a = kOf b) : a = b := by
  have : (kOf a).map kV = (kOf b).map kV := by rw [h]
  rw [map_kV, map_kV] at this
  exact List.map_inj_right (fun x y e => V.int.inj e) |>.mp this
theorem valV_ent (b : Ev.Blk) : ∀ ks : List Ev.Ent, valV (ks.map entI) (kOf b) = (Ev.getE ks b).map V.int
  | [] => rfl
  | e :: ks => by
    have ih := valV_ent b ks
    unfold valV Ev.getE at *
    rw [List.map_cons, List.find?_cons, List.find?_cons]
    by_cases h : e.1 = b
    · have h2 : (entI e).1 = kOf b := by rw [← h]
      rw [decide_eq_true h2, decide_eq_true h]
      rfl
    · have h2 : ¬ (entI e).1 = kOf b := fun z => h (kOf_inj z)
      rw [decide_eq_false h2, decide_eq_false h]
      exact ih
theorem putK_ent (b : Ev.Blk) (c : Int) (ks : List Ev.Ent) : putK (ks.map entI) (kOf b) (.int c) = (Ev.putE ks b c).map entI := by
  have h1 : ((ks.map entI).any fun kv => decide (kv.1 = kOf b)) = ks.any fun e => decide (e.1 = b) := by
    rw [List.any_map]
    congr 1
    funext e
    exact decide_eq_decide.mpr ⟨fun z => kOf_inj z, fun z => by show kOf e.1 = kOf b; rw [z]⟩
  unfold putK Ev.putE
  rw [h1]
  by_cases h : (ks.any fun e => decide (e.1 = b)) = true
  · rw [if_pos h, if_pos h, List.map_map, List.map_map]
    refine List.map_congr_left fun e _ => ?_
    show (if (entI e).1 = kOf b then ((entI e).1, V.int c) else entI e) = entI (if e.1 = b then (e.1, c) else e)
    by_cases q : e.1 = b
    · rw [if_pos q, if_pos (show (entI e).1 = kOf b by rw [← q])]
    · rw [if_neg q, if_neg (fun z => q (kOf_inj z))]
  · rw [if_neg h, if_neg h, List.map_append]
    rfl
theorem getD_int (o : Option Int) : (o.map V.int).getD (.int 0) = .int (o.getD 0) := by
  cases o <;> rfl
/-- a tuple of ints stands there -/
theorem key_at {H : Hp} {b : Ev.Blk} {t : Addr} (h : H t = some (.tup (b.map V.int))) : H t = some (.tup ((kOf b).map kV)) := by
  rw [map_kV]
  exact h
section
variable {P : Program} {w : World} {K : PySem.W.Frag} {mg : Str → Option Value} {base : Heap}
/-! ### counted -/
def spCounted : Sp := fun vs H Q _ => ∃ (F : Addr → Bool) (L : List Ev.Blk), Fok F H ∧ RpA (hide F H) [.tuple (L.map dT)] vs ∧ L.length ≤ 1000 ∧ ∀ (d : Addr) (H' : Hp) (ks : List Ev.Ent), H d = none → Ex H H' → H' d = some (.dT (ks.map entI)) → Ev.Cnt L ks → Q (.ref d) H'
theorem scCt : FnScope ["blocks", "found", "block"] ["blocks"] (defScope sCounted) := ⟨rfl, rfl, rfl, by decide +kernel, rfl, by decide +kernel, by decide +kernel⟩
theorem ok_counted {f : Addr} {fd : FuncData} (F : Fun K "counted" "counted" sCounted f fd) (T : Txt mg) : FnOk P w K mg base CX0 1 f fd ["blocks"] spCounted := by
  refine F.ok scCt (fun vs H Q E h => ?_) (fun cdv A outer s H vs Q E hr h => ?_)
  · obtain ⟨G, L, fo, r, _⟩ := h
    exact r.len
  · obtain ⟨G, L, fo, r, hL, q⟩ := h
    have e : Env (hide G H) (L2.start ["blocks", "found", "block"] vs) [some (.tuple (L.map dT)), none, none] := env_start r
    have hu := hu_of hr
    refine ⟨_, pss_cons (ps_set (i := 1) scCt.nd rfl (Or.inl rfl) pe_dnewT)
      (pss_cons (ps_for PassesOwn.never rfl (pi_tup (pv 0)) (pg_name (i := 2) scCt.nd rfl (Or.inl rfl))
        (pss_one (ps_dput hu (pv 1) (pv 2) (pe_op op_add (pe_dget2 hu (pv 1) (pv 2) pe_int ⟨rfl, rfl, rfl, rfl⟩) pe_int) rfl)))
      (pss_one (ps_ret (pv 1)))), ?_⟩
    refine fun o no => ?_
    have hnew : ∀ a, one o a = true → H a = none := fun a ha => by rw [one_iff.mp ha]; exact no
    have E2 : Env (hide (un G (one o)) (upd H o (.dT []))) ((L2.start ["blocks", "found", "block"] vs).set 1 (some (.ref o))) [some (.tuple (L.map dT)), none, none] := by
      rw [hide_un_upd one_self, hide_un_new hnew]
      exact e.drop (i := 1) _
    have hlen2 : ((L2.start ["blocks", "found", "block"] vs).set 1 (some (.ref o)))[1]? = some (some (V.ref o)) := by
      have hl := e.1
      exact List.getElem?_set_self (by rw [hl]; simp)
    have eb : Ex H (upd H o (.dT [])) := Ex.new no
    refine gs_forM (F := G) (S := one o) L dT (fun i σ' H' => σ'[1]? = some (some (V.ref o)) ∧ ∃ ks : List Ev.Ent, H' o = some (.dT (ks.map entI)) ∧ Ev.Cnt (L.take i) ks)
      (gi_tup (gv_var rfl)) (fo.ex (Ex.new no)) (fun i σ' H' ⟨_, ks, ho, _⟩ a ha => by rw [one_iff.mp ha]; exact .mk ho (fun _ z => by cases z)) E2 (fun _ _ z => z) (fun i σ' H' x ⟨h1, h2⟩ => ⟨set_ne (by decide) h1, h2⟩)
      (fun i σ' H' H'' ⟨h1, ks, h2, h3⟩ e' => ⟨h1, ks, e' _ _ h2, h3⟩) ⟨hlen2, [], upd_same, Ev.Cnt.nil⟩ (fun i b hb σ' H' e' f' E' ⟨hσ, ks, ho, hk⟩ Nx Bk hN => ?_) (fun σ' H' e' f' E' ⟨hσ, ks, ho, hk⟩ => ?_)
    · obtain ⟨vb, hvb, rb⟩ := E'.2 2 _ rfl
      obtain ⟨t, rfl, ht⟩ := rp_dT.mp rb
      have ht' := key_at (hide_in _ _ ht)
      have hks := hk.len
      have hti : (L.take i).length ≤ 1000 := by rw [List.length_take]; omega
      refine ⟨.ref o, hσ, o, rfl, .inr ⟨_, .inl ho⟩, .ref t, hvb, _, DGet.t ho ht', ?_⟩
      rw [valV_ent, getD_int]
      refine ⟨_, _, rfl, rfl, .ref o, hσ, .ref t, hvb, o, _, rfl, DPut.t ho ht' (by rw [List.length_map, sizeLine_eq]; omega), hN _ _ (Exs.upd one_self) ?_ ⟨hσ, Ev.putE ks b ((Ev.getE ks b).getD 0 + 1), ?_, ?_⟩⟩
      · rw [hide_un_upd one_self]
        exact E'.less (i := 2)
      · rw [upd_same, putK_ent]
      · rw [List.take_succ, hb]
        exact hk.snoc b
    · rw [List.take_length] at hk
      exact ⟨.ref o, hσ, q o H' ks no (Exs.ex e' eb hnew) ho hk⟩
end
end EvW
-- part EvWalk5
namespace EvW
open PySem L2
/-- an entry that is told -/
abbrev dE (e : Ev.Ent) : PD := .tuple [dT e.1, .int e.2]
abbrev dTold (T : List Ev.Ent) : PD := .tuple [.str "turns", .list (T.map dE)]
theorem rpa_of {α : Type} {H : Hp} {fd : α → PD} {fv : α → V} : ∀ {l : List α}, (∀ z ∈ l, Rp H (fd z) (fv z)) → RpA H (l.map fd) (l.map fv)
  | [], _ => rpa_nil.mpr rfl
  | z :: l, h => rpa_cons.mpr ⟨_, _, rfl, h z List.mem_cons_self, rpa_of fun y hy => h y (List.mem_cons_of_mem _ hy)⟩
section
variable {P : Program} {w : World} {K : PySem.W.Frag} {mg : Str → Option Value} {base : Heap}
def pTurns : List PD → PD → Prop := fun ds d => ∃ (n : Nat) (L : List Ev.Blk), ds = [dLay n L] ∧ 0 < n ∧ n ≤ 13 ∧ L.length ≤ 1000 ∧ Ev.Trn n L ∧ d = dTold (Ev.toldOf n L)
abbrev NTu : List Str := ["layout", "n", "blocks", "often", "number", "known", "block", "least", "by"]
theorem scTu : FnScope NTu ["layout"] (defScope sTurns) := ⟨rfl, rfl, rfl, by decide +kernel, rfl, by decide +kernel, by decide +kernel⟩
theorem ok_turns {f f1 f2 : Addr} {fd fd1 fd2 : FuncData} (F : Fun K "turns_told" "turns_told" sTurns f fd) (T : Txt mg) (C1 : Cal P w K mg base 1 "turned" ["block", "by", "n"] (spD pTurned) f1 fd1) (C2 : Cal P w K mg base 1 "counted" ["blocks"] spCounted f2 fd2) :
    FnOk P w K mg base CX0 2 f fd ["layout"] (spD pTurns) := by
  refine F.ok scTu (fun vs H Q E h => ?_) (fun cdv A outer s H vs Q E hr h => ?_)
  · obtain ⟨G, ds, d, fo, r, ⟨n, L, rfl, _⟩, q⟩ := h
    exact r.len
  · obtain ⟨G, ds, d, fo, r, ⟨n, L, rfl, hn0, hn13, hL, hT, rfl⟩, q⟩ := h
    have e : Env (hide G H) (L2.start NTu vs) [some (dLay n L), none, none, none, none, none, none, none, none] := env_start r
    have hu := hu_of hr
    refine ⟨_, pss_cons (ps_asg (pv 0) (pg_tup rfl (pgs_cons (pg_name (i := 1) scTu.nd rfl (Or.inr rfl)) (pgs_cons (pg_name (i := 2) scTu.nd rfl (Or.inl rfl)) pgs_nil))))
      (pss_cons (ps_asg (pe_cal C2 hr (by rfl) (pa_cons (pv 2) pa_nil)) (pg_name (i := 3) scTu.nd rfl (Or.inl rfl)))
      (pss_cons (ps_for PassesOwn.never rfl (pi_range1 (by rfl) T.range (pa_cons (pe_callB call_len_seq (by rfl) T.len b_len (pa_cons (pv 2) pa_nil)) pa_nil)) (pg_name (i := 4) scTu.nd rfl (Or.inl rfl))
        (pss_one (ps_if (pt_cmpR op_lt (pe_dget2 hu (pv 3) (pe_cal C1 hr (by rfl) (pa_cons (pe_ix ix_tup (pv 2) (pv 4) (fun _ _ => rfl)) (pa_cons pe_int (pa_cons (pv 1) pa_nil)))) pe_int ⟨rfl, rfl, rfl, rfl⟩) (pe_dget hu (pv 3) (pe_ix ix_tup (pv 2) (pv 4) (fun _ _ => rfl)) (fun _ _ => rfl)) (nomark _)) pss_never pss_nil)))
      (pss_cons (ps_set (i := 5) scTu.nd rfl (Or.inl rfl) pe_dnewT)
      (pss_cons (ps_lock (ps_for PassesOwn.never rfl (pi_keys (pv 3)) (pg_name (i := 6) scTu.nd rfl (Or.inr rfl))
        (pss_cons (ps_asg (pe_callB (cr_minB rfl (hu64 hr)) (by rfl) T.min b_min (pa_cons
            (pe_lc (own := [("by", 8)]) (g := gName 8) (tt := tYes) rfl scTu.nd (pi_range1 (by rfl) T.range (pa_cons (pv 1) pa_nil)) (blkOk_by (N := NTu) (sc := defScope sTurns) (by decide +kernel))
              (fun _ _ _ _ _ => pg_name (i := 8) scTu.nd rfl (Or.inl rfl)) (fun _ _ _ _ _ => pts_nil) (fun _ _ _ _ _ => pe_cal C1 hr (by rfl) (pa_cons (pv 6) (pa_cons (pv 8) (pa_cons (pv 1) pa_nil))))) pa_nil)) (pg_name (i := 7) scTu.nd rfl (Or.inl rfl)))
          (pss_one (ps_dput hu (pv 5) (pv 7) (pe_dget hu (pv 3) (pv 6) (fun _ _ => rfl)) rfl)))))
      (pss_one (ps_ret (pe_tup (pa_cons pe_str (pa_cons (pe_callB (cr_sortItB rfl (hu64 hr)) (by rfl) T.sorted b_sorted (pa_cons (pe_bm0 PySem.F.plainAttrs_dict PySem.F.slot_dict_items PySem.F.type_dict_items DX.mt_itemsT (pv 5)) pa_nil)) pa_nil))))))))), ?_⟩
    refine gs_asg2 (gv_var rfl) fo e fun σ1 H1 e1 f1 E1 => ?_
    -- often = counted(blocks)
    obtain ⟨v2, hv2, r2⟩ := E1.2 2 _ rfl
    refine ⟨v2, hv2, G, L, f1, rpa_one.mpr ⟨v2, rfl, r2⟩, hL, fun d H2 ks nd e2 hd hk => ?_⟩
    have hS1 : ∀ a, one d a = true → H1 a = none := fun a ha => by rw [one_iff.mp ha]; exact nd
    have E2 : Env (hide (un G (one d)) H2) (σ1.set 3 (some (.ref d))) [some (dLay n L), some (.int (n : Int)), some (.tuple (L.map dT)), none, none, none, none, none, none] :=
      (E1.ex (hide_un_ex e2 hS1)).drop (i := 3) _
    have hσ2 : (σ1.set 3 (some (V.ref d)))[3]? = some (some (V.ref d)) := by
      have hl := E1.1
      exact List.getElem?_set_self (by rw [hl]; simp)
    have blk : ∀ b ∈ L, b.length < 64 := fun b hb => by have := bas_len (hT.can b hb).bas; omega
    -- each turned block comes as often
    refine gs_forM (F := G) (S := one d) (List.range L.length) (fun i : Nat => .int (i : Int)) (fun i σ' H' => σ'[3]? = some (some (V.ref d)) ∧ H' d = some (.dT (ks.map entI)))
      (gi_r1 (ga_1 (gv_is (gv_cb (ga_1 (gv_var rfl)) gc_lenT) (by rw [List.length_map]))) (by omega)) (f1.ex e2) (fun i σ' H' ⟨_, ho⟩ a ha => by rw [one_iff.mp ha]; exact .mk ho (fun _ z => by cases z)) E2 (fun _ _ z => z) (fun i σ' H' x ⟨h1, h2⟩ => ⟨set_ne (by decide) h1, h2⟩)
      (fun i σ' H' H'' ⟨h1, h2⟩ e' => ⟨h1, e' _ _ h2⟩) ⟨hσ2, hd⟩ (fun i a ha σ' H' e' f' E' ⟨hσ, ho⟩ Nx Bk hN => ?_) (fun σ3 H3 e3 f3 E3 ⟨hσ3, ho3⟩ => ?_)
    · have ei : a = i ∧ i < L.length := by
        have hlt := (List.getElem?_eq_some_iff.mp ha).1
        rw [List.length_range] at hlt
        rw [List.getElem?_range hlt] at ha
        exact ⟨(Option.some.inj ha).symm, hlt⟩
      obtain ⟨rfl, hlt⟩ := ei
      have hb : L[a]? = some L[a] := List.getElem?_eq_getElem hlt
      have hm : L[a] ∈ L := List.getElem_mem hlt
      generalize L[a] = b at hb hm
      have hix : Gv (tOp (rIxT K) (tVar 2) (tVar 4)) (List.set [some (dLay n L), some (.int (n : Int)), some (.tuple (L.map dT)), none, none, none, none, none, none] 4 (some (.int (a : Int)))) (dT b) :=
        gv_op (gv_var rfl) (gv_var rfl) (g_ixT (d := dT b) (atI_nat (j := a) (by rw [List.getElem?_map, hb]; rfl)))
      refine ⟨.ref d, hσ, d, rfl, .inr ⟨_, .inl ho⟩, ?_⟩
      refine (gv_call (Pre := pTurned) (ga_3 hix gv_int (gv_var rfl)) ⟨b, 1, n, .inr rfl, hn0, blk b hm, rfl⟩) σ' H' (un G (one d)) f' E' _ fun v H4 e4 r4 => ?_
      obtain ⟨t, rfl, ht⟩ := rp_dT.mp r4
      refine ⟨_, DGet.t (e4 _ _ ho) (key_at (hide_in _ _ ht)), ?_⟩
      rw [valV_ent, getD_int, hk.get]
      refine ⟨.ref d, hσ, ?_⟩
      refine hix σ' H4 (un G (one d)) (f'.ex e4) (E'.ex (hide_ex e4)) _ fun v H5 e5 r5 => ?_
      obtain ⟨t2, rfl, ht2⟩ := rp_dT.mp r5
      have g5 := DGet.t (e5 _ _ (e4 _ _ ho)) (key_at (hide_in _ _ ht2))
      rw [valV_ent, Ev.getE_some hk.nd ((hk.mem b _).mpr ⟨hm, rfl⟩)] at g5
      refine ⟨d, .int (L.count b : Int), rfl, g5, _, _, rfl, rfl, _, rfl, ?_⟩
      have hc : L.count (Ev.tn n 1 b) = L.count b := hT.cnt b (hT.can b hm) 1
      rw [hc, decide_eq_false (Int.lt_irrefl _)]
      exact hN σ' H5 (Ex.exs (e4.trans e5)) ((E'.ex (hide_ex (e4.trans e5))).less (i := 4)) ⟨hσ, e5 _ _ (e4 _ _ ho)⟩
    · -- known = {}
      refine fun o no => ?_
      have hod : d ≠ o := ne_of_none ho3 no
      have hS2 : ∀ a, two d o a = true → H1 a = none := fun a ha => by
        rcases two_iff.mp ha with z | z
        · rw [z]; exact nd
        · rw [z]; exact (Exs.ex e3 e2 hS1).back no
      have hσa : ((σ3.set 5 (some (V.ref o)))[3]? : Option (Option V)) = some (some (V.ref d)) := set_ne (by decide) hσ3
      have hσb : ((σ3.set 5 (some (V.ref o)))[5]? : Option (Option V)) = some (some (V.ref o)) := by
        have hl := E3.1
        exact List.getElem?_set_self (by rw [hl]; simp)
      have hd4 : upd H3 o (.dT []) d = some (.dT (ks.map entI)) := by rw [upd_ne hod]; exact ho3
      refine ⟨d, .dT (ks.map entI), hd4, trivial, fun od => ?_⟩
      generalize hH4 : upd (upd H3 o (.dT [])) d (.frz od (.dT (ks.map entI))) = H4
      have x4 : Exs (two d o) H2 H4 := by
        rw [← hH4]
        exact (Exs.trans (fun a x hs h => e3 a x (by
          cases q : one d a with
          | false => rfl
          | true => rw [one_iff.mp q, two_l] at hs; cases hs) h) (Exs.upd two_r)).trans (Exs.upd two_l)
      have ho4 : H4 o = some (.dT []) := by rw [← hH4, upd_ne (Ne.symm hod), upd_same]
      have hd4' : H4 d = some (.frz od (.dT (ks.map entI))) := by rw [← hH4, upd_same]
      have X2 : Ex (hide G H1) (hide (un G (two d o)) H4) := hide_un_ex (Exs.ex x4 e2 hS2) hS2
      have K4 : Ex (hide (un G (one d)) H3) (hide (un G (two d o)) H4) := fun a x hx => by
        obtain ⟨q1, q2⟩ := hide_some hx
        have q3 := un_no q1
        have qo : a ≠ o := ne_of_none q2 no
        have qd : a ≠ d := fun z => by rw [z, one_self] at q3; cases q3.2
        rw [hide_no (by
          unfold un two
          rw [q3.1, decide_eq_false qd, decide_eq_false qo]
          rfl), ← hH4, upd_ne qd, upd_ne qo]
        exact q2
      have E4 : Env (hide (un G (two d o)) H4) (σ3.set 5 (some (V.ref o))) [some (dLay n L), some (.int (n : Int)), some (.tuple (L.map dT)), none, none, none, none, none, none] := (E3.ex K4).drop (i := 5) _
      refine ⟨.ref d, hσa, d, od, rfl, .inr ⟨_, hd4', ?_⟩⟩
      refine ⟨fun i m σ' H' => i + m = ks.length ∧ σ'[3]? = some (some (V.ref d)) ∧ σ'[5]? = some (some (V.ref o)) ∧ H' d = some (.frz od (.dT (ks.map entI))) ∧ (∃ kn : List Ev.Ent, H' o = some (.dT (kn.map entI)) ∧ Ev.Knw n L ((ks.take i).map (·.1)) kn) ∧ Exs (two d o) H2 H' ∧
          Env (hide (un G (two d o)) H') σ' [some (dLay n L), some (.int (n : Int)), some (.tuple (L.map dT)), none, none, none, none, none, none],
        ⟨ks.length, by omega, hσa, hσb, hd4', ⟨[], ho4, Ev.Knw.nil⟩, x4, E4⟩, ?_⟩
      rintro i m σ' H' ⟨him, s3, s5, hdH, ⟨kn, hoH, hkn⟩, x', E'⟩
      have fG : Fok G H' := (f1.ex e2).exs x' fun a ha => by
        rcases two_iff.mp ha with z | z
        · rw [z]; exact .mk hdH (fun _ z => by cases z)
        · rw [z]; exact .mk hoH (fun _ z => by cases z)
      by_cases hlt : i < ks.length
      · have f' : Fok (un G (two d o)) H' := fok_un fG fun a ha => by
          rcases two_iff.mp ha with z | z
          · rw [z]; exact .mk hdH (fun _ z => by cases z)
          · rw [z]; exact .mk hoH (fun _ z => by cases z)
        refine .inr ⟨⟨hdH, by rw [List.length_map]; exact hlt⟩, fun σ2 H2' => σ2[3]? = some (some (V.ref d)) ∧ σ2[5]? = some (some (V.ref o)) ∧ H2' d = some (.frz od (.dT (ks.map entI))) ∧ (∃ kn : List Ev.Ent, H2' o = some (.dT (kn.map entI)) ∧ Ev.Knw n L ((ks.take (i + 1)).map (·.1)) kn) ∧ Exs (two d o) H2 H2' ∧
            Env (hide (un G (two d o)) H2') σ2 [some (dLay n L), some (.int (n : Int)), some (.tuple (L.map dT)), none, none, none, none, none, none], fun σ2 H2' z => ⟨m - 1, by omega, by omega, z⟩, fun x H5 hx => ?_⟩
        obtain ⟨rfl, k, v, t, hkv, rfl, ht⟩ := hx
        have hks : ks[i]? = some ks[i] := List.getElem?_eq_getElem hlt
        have hmem : ks[i] ∈ ks := List.getElem_mem hlt
        generalize ks[i] = en at hks hmem
        obtain ⟨b, c⟩ := en
        rw [List.getElem?_map, hks] at hkv
        have hkv' : entI (b, c) = (k, v) := Option.some.inj hkv
        have ek : kOf b = k := congrArg Prod.fst hkv'
        rw [← ek, map_kV] at ht
        obtain ⟨hbL, hc⟩ := (hk.mem b c).mp hmem
        have hth : hide (un G (two d o)) H5 t = some (.tup (b.map V.int)) := hide_at (f'.tup ht) ht
        have E6 := (E'.set (i := 6) (rp_dT.mpr ⟨t, rfl, hth⟩ : Rp (hide (un G (two d o)) H5) (dT b) (.ref t)))
        have hmin := Ev.lst_is hn0 b
        refine (gv_cb (ga_1 (gv_is (gv_lcA (List.range n) (fun i : Nat => .int (i : Int)) (fun i : Nat => dT (Ev.tn n i b)) (gi_r1 (ga_1 (gv_var rfl)) (by omega)) (by rw [List.length_range]; omega)
          (fun k _ => gv_call (Pre := pTurned) (ga_3 (gv_var rfl) (gv_var rfl) (gv_var rfl)) ⟨b, (k : Int), n, .inr rfl, hn0, blk b hbL, rfl⟩)) (map_tup _ _))) (gc_minB hmin.mem hmin.le)) _ H5 (un G (two d o)) f' E6 _ fun v H6 e6 r6 => ?_
        obtain ⟨tl, rfl, htl⟩ := rp_dT.mp r6
        have hl := E'.1
        have s3' : (((σ'.set 6 (some (V.ref t))).set 7 (some (V.ref tl)))[3]? : Option (Option V)) = some (some (V.ref d)) := set_ne (by decide) (set_ne (by decide) s3)
        have s5' : (((σ'.set 6 (some (V.ref t))).set 7 (some (V.ref tl)))[5]? : Option (Option V)) = some (some (V.ref o)) := set_ne (by decide) (set_ne (by decide) s5)
        have s6' : (((σ'.set 6 (some (V.ref t))).set 7 (some (V.ref tl)))[6]? : Option (Option V)) = some (some (V.ref t)) := set_ne (by decide) (List.getElem?_set_self (by rw [hl]; simp))
        have s7' : (((σ'.set 6 (some (V.ref t))).set 7 (some (V.ref tl)))[7]? : Option (Option V)) = some (some (V.ref tl)) := List.getElem?_set_self (by rw [List.length_set, hl]; simp)
        have g6 : DGet H6 d (.ref t) (some (.int c)) := by
          refine .inr ⟨ks.map entI, kOf b, t, .inr ⟨od, e6 _ _ hdH⟩, rfl, key_at (e6 _ _ ht), ?_⟩
          rw [valV_ent, Ev.getE_some hk.nd hmem]
          rfl
        have hknl : kn.length ≤ 1000 := by
          have a1 := hkn.len
          rw [List.length_map, List.length_take] at a1
          have a2 := hk.len
          omega
        refine ⟨.ref d, s3', .ref t, s6', d, _, rfl, g6, .ref o, s5', .ref tl, s7', o, _, rfl, DPut.t (e6 _ _ hoH) (key_at (hide_in _ _ htl)) (by rw [List.length_map, sizeLine_eq]; omega), s3', s5', ?_, ⟨Ev.putE kn (Ev.lst n b) c, ?_, ?_⟩, (x'.trans (Ex.exs e6)).trans (Exs.upd two_r), ?_⟩
        · rw [upd_ne hod]
          exact e6 _ _ hdH
        · rw [upd_same, putK_ent]
        · rw [map_take1 hks, hc]
          exact hkn.snoc hn0 hT (fun x hx => by
            obtain ⟨en, he, rfl⟩ := List.mem_map.mp hx
            exact (hk.keys _).mp (List.mem_map.mpr ⟨en, List.mem_of_mem_take he, rfl⟩)) hbL
        · rw [hide_un_upd two_r]
          exact (((E6.ex (hide_ex e6)).less (i := 6)).drop (i := 7) _)
      · refine .inl ⟨⟨hdH, by rw [List.length_map]; omega⟩, hdH, ?_⟩
        rw [List.take_of_length_le (by omega)] at hkn
        have ho7 : upd H' d (.dT (ks.map entI)) o = some (.dT (kn.map entI)) := by rw [upd_ne (Ne.symm hod)]; exact hoH
        have x7 : Exs (two d o) H2 (upd H' d (.dT (ks.map entI))) := x'.trans (Exs.upd two_l)
        have f7 : Fok G (upd H' d (.dT (ks.map entI))) := (f1.ex e2).exs x7 fun a ha => by
          rcases two_iff.mp ha with z | z
          · rw [z]; exact .mk upd_same (fun _ z => by cases z)
          · rw [z]; exact .mk ho7 (fun _ z => by cases z)
        have y7 : Ex H (upd H' d (.dT (ks.map entI))) := Exs.ex x7 (e1.trans e2) fun a ha => e1.back (hS2 a ha)
        generalize upd H' d (.dT (ks.map entI)) = H7 at ho7 f7 y7
        have hknl : kn.length ≤ 1000 := by
          have a1 := hkn.len
          rw [List.length_map] at a1
          have a2 := hk.len
          omega
        refine ⟨.ref o, s5, .inr (.inr (.inl ⟨rfl, .inr ⟨_, ho7⟩⟩)), o, kn.map entI, rfl, rfl, ho7, fun p np => ?_⟩
        refine ⟨p, o, kn, rfl, upd_same, by rw [upd_ne (ne_of_none ho7 np)]; exact ho7, hknl, fun H8 l ps e8 nl hperm hpw hl8 hz => ?_⟩
        refine ⟨by rw [sizeLine_eq]; show 2 ≤ _; omega, fun tt nt => ?_⟩
        have y8 : Ex H7 H8 := (Ex.new np).trans e8
        have told : ps.map (·.2) = Ev.toldOf n L := Ev.Told.is hn0 hT (hkn.told (fun b => hk.keys b) hperm hpw)
        refine q _ _ ((y7.trans y8).trans (Ex.new nt)) (rp_tup.mpr ⟨tt, _, rfl, fresh_hide (f7.ex y8) nt, rpa_two.mpr ⟨_, _, rfl, rp_str.mpr rfl, ?_⟩⟩)
        have f8 := f7.ex y8
        rw [← told, List.map_map]
        have x9 : ∀ {u : HO}, Ex (hide G H8) (hide G (upd H8 tt u)) := hide_ex (Ex.new nt)
        refine Rp.ex x9 (rp_list.mpr ⟨l, _, rfl, hide_at ?_ hl8, rpa_of fun z hz' => ?_⟩)
        · cases gl : G l with
          | false => rfl
          | true =>
            obtain ⟨x, h1, _⟩ := f7 l gl
            rw [Ex.new np l x h1] at nl
            cases nl
        · obtain ⟨qa, z1, z2⟩ := hz z hz'
          exact rp_tup.mpr ⟨z.1, _, rfl, hide_at (f8.tup z1) z1, rpa_two.mpr ⟨_, _, rfl, rp_dT.mpr ⟨qa, rfl, hide_at (f8.tup z2) z2⟩, rp_int.mpr rfl⟩⟩
end
end EvW
-- part EvWalk6
namespace EvW
open PySem L2
section
variable {Γ : Ctx} {te : TE} {d : PD} {rest : TS} {D : Ends} {σ : L2.St} {H : Hp} {F : Addr → Bool}
/-- an assignment, the slots kept in sight -/
theorem gs_setv {i : Nat} (h : Gv te Γ d) (f : Fok F H) (e : Env (hide F H) σ Γ) (k : ∀ v H', Ex H H' → Fok F H' → Rp (hide F H') d v → Env (hide F H') (σ.set i (some v)) (Γ.set i (some d)) → rest D (σ.set i (some v)) H') : tSeq (tAsg te (gName i)) rest D σ H :=
  h σ H F f e _ fun v H1 e1 r1 => k v H1 e1 (f.ex e1) r1 ((e.ex (hide_ex e1)).set r1)
theorem gs_setv1 {i : Nat} (h : Gv te Γ d) (f : Fok F H) (e : Env (hide F H) σ Γ) (k : ∀ v H', Ex H H' → Fok F H' → Rp (hide F H') d v → Env (hide F H') (σ.set i (some v)) (Γ.set i (some d)) → D.nx (σ.set i (some v)) H') : tAsg te (gName i) D σ H :=
  h σ H F f e _ fun v H1 e1 r1 => k v H1 e1 (f.ex e1) r1 ((e.ex (hide_ex e1)).set r1)
end
theorem SqL.exx {K : PySem.W.Frag} {H H' : Hp} {a : Addr} {xs : List V} (h : SqL K H a xs) (e : Ex H H') : SqL K H' a xs := by
  refine h.imp_left fun r => ?_
  cases r with
  | inl at_a => exact .inl (e _ _ at_a)
  | inr z => exact .inr (z.imp fun _ at_a => e _ _ at_a)
section
variable {P : Program} {w : World} {K : PySem.W.Frag} {mg : Str → Option Value} {base : Heap}
/-! ### _law_cell: some whole number -/
def spCell (K : PySem.W.Frag) : Sp := fun vs H Q _ => ∃ (a : Addr) (ns : List Int), vs = [.ref a, .int 0] ∧ SqL K H a (ns.map V.int) ∧ ∀ (i : Int) (H' : Hp), Ex H H' → Q (.int i) H'
abbrev NCe : List Str := ["_law_script", "_law_k", "_law_state", "_law_cell_here"]
theorem scCe : FnScope NCe ["_law_script", "_law_k"] (defScope sCell) := ⟨rfl, rfl, rfl, by decide +kernel, rfl, by decide +kernel, by decide +kernel⟩
theorem ok_cell {f : Addr} {fd : FuncData} (F : Fun K "_law_cell" "_law_cell" sCell f fd) (T : Txt mg) : FnOk P w K mg base CX0 1 f fd ["_law_script", "_law_k"] (spCell K) := by
  refine F.ok scCe (fun vs H Q E h => ?_) (fun cdv A outer s H vs Q E hr h => ?_)
  · obtain ⟨a, ns, rfl, _⟩ := h
    rfl
  · obtain ⟨a, ns, rfl, hs, q⟩ := h
    refine ⟨_, pss_cons (ps_if (pt_cmpR op_lt (pv 1) (pe_callB call_len_seq (by rfl) T.len b_len (pa_cons (pv 0) pa_nil)) (nomark _)) (pss_one (ps_ret (pe_ix ix_list (pv 0) (pv 1) (fun _ _ => rfl)))) pss_nil)
      (pss_cons (ps_set (i := 2) scCe.nd rfl (Or.inl rfl) (pe_op op_mod (pe_op op_mul pe_int (pe_op op_add (pe_op op_add (pe_op op_mul (pv 1) (pv 1)) (pe_op op_mul pe_int (pv 1))) pe_int)) pe_int))
      (pss_cons (ps_for PassesOwn.never rfl (pi_list (pe_slice sl_list (pv 0) po_none (po_some pe_int))) (pg_name (i := 3) scCe.nd rfl (Or.inl rfl))
        (pss_one (ps_set (i := 2) scCe.nd rfl (Or.inl rfl) (pe_op op_mod (pe_op op_add (pe_op op_mul (pv 2) pe_int) (pv 3)) pe_int))))
      (pss_one (ps_ret (pv 2))))), ?_⟩
    refine ⟨_, rfl, _, rfl, a, _, rfl, .inl hs, _, _, rfl, rfl, _, rfl, ?_⟩
    cases ns with
    | cons z ns =>
      rw [decide_eq_true (show (0 : Int) < (((z :: ns).map V.int).length : Int) by simp), if_pos rfl]
      exact ⟨_, rfl, _, rfl, a, _, _, _, rfl, rfl, hs, at_any (j := 0) rfl rfl, q z H (Ex.refl H)⟩
    | nil =>
      rw [decide_eq_false (show ¬ (0 : Int) < ((([] : List Int).map V.int).length : Int) by simp), if_neg Bool.false_ne_true]
      have E0 : Env (hide F0 H) (L2.start NCe [V.ref a, V.int 0]) [none, some (.int 0), none, none] := ⟨rfl, fun i d hi => by
        match i with
        | 0 => cases hi
        | 1 => cases hi; exact ⟨.int 0, rfl, rp_int.mpr rfl⟩
        | 2 => cases hi
        | 3 => cases hi
        | i + 4 => cases hi⟩
      refine gs_setv (F := F0) (gv_op (gv_op gv_int (gv_op (gv_op (gv_op (gv_var rfl) (gv_var rfl) (g_I (.inl ⟨by decide, by decide⟩))) (gv_op gv_int (gv_var rfl) (g_I (.inl ⟨by decide, by decide⟩))) g_I0) gv_int g_I0) (g_I (.inl ⟨by decide, by decide⟩))) gv_int (g_I (by decide))) fok_F0 E0 fun v H1 e1 f1 r1 E1 => ?_
      have v1 := rp_int.mp r1
      subst v1
      refine ⟨.ref a, rfl, 3, rfl, a, [], rfl, ?_, fun p np => ?_⟩
      · exact SqL.exx hs e1
      · have ec : cutV ([] : List V) none (some 3) = [] := rfl
        rw [ec]
        refine ⟨p, rfl, ⟨[], SqL.of upd_same⟩, fun i m σ' H' => H' p = some (.lst []) ∧ Ex H H' ∧ ∃ z : Int, σ'[2]? = some (some (.int z)), ⟨0, upd_same, e1.trans (Ex.new np), _, rfl⟩, ?_⟩
        rintro i m σ' H' ⟨h1, h2, z, h3⟩
        exact .inl ⟨⟨[], SqL.of h1, Nat.zero_le _⟩, _, h3, q z H' h2⟩
end
end EvW
-- part EvWalk7
namespace EvW
open PySem L2
theorem gv_ix2 {K : PySem.W.Frag} {Γ : Ctx} {ta tb ti : TE} {x y : PD} {b : Bool} (ha : Gv ta Γ x) (hb : Gv tb Γ y) (hi : Gv ti Γ (.int (if b then 1 else 0))) : Gv (tOp (rIxL K) (tLst (tCons ta (tCons tb tNil))) ti) Γ (if b then y else x) :=
  gv_op (gv_lst (ga_2 ha hb) (by simp)) hi (g_ixL (by cases b <;> rfl))
/-- if t: x = e -/
theorem gs_ifAsg {Γ : Ctx} {t : TT} {te : TE} {d0 d1 : PD} {rest : TS} {D : Ends} {σ : L2.St} {H : Hp} {F : Addr → Bool} {i : Nat} {b : Bool} (h0 : Γ[i]? = some (some d0)) (h : Gt t Γ b) (h1 : b = true → Gv te Γ d1) (f : Fok F H) (e : Env (hide F H) σ Γ)
    (k : ∀ σ' H', Ex H H' → Fok F H' → Env (hide F H') σ' (Γ.set i (some (if b then d1 else d0))) → (∀ j, i ≠ j → σ'[j]? = σ[j]?) → rest D σ' H') : tSeq (tIfS t (tAsg te (gName i)) tNext) rest D σ H := h σ H F f e _ fun H1 e1 => by
  cases b with
  | true => exact h1 rfl σ H1 F (f.ex e1) (e.ex (hide_ex e1)) _ fun v H2 e2 r2 => k _ H2 (e1.trans e2) ((f.ex e1).ex e2) ((e.ex (hide_ex (e1.trans e2))).set r2) fun j hj => List.getElem?_set_ne hj
  | false =>
    refine k σ H1 e1 (f.ex e1) ?_ fun _ _ => rfl
    obtain ⟨v, hv, r⟩ := e.2 i d0 h0
    exact (e.ex (hide_ex e1)).know hv (r.ex (hide_ex e1))
section
variable {P : Program} {w : World} {K : PySem.W.Frag} {mg : Str → Option Value} {base : Heap}
/-! ### _law_numbers: so many numbers, none below 0, all small -/
def spNums : Sp := fun vs H Q _ => ∃ (F : Addr → Bool) (c : Int) (m : Nat), Fok F H ∧ vs = [.int c, .int (m : Int)] ∧ m ≤ 100 ∧ ∀ (xs : List Int) (v : V) (H' : Hp), xs.length = m → (∀ x ∈ xs, 0 ≤ x ∧ x < 2000000000) → Ex H H' → Rp (hide F H') (dL xs) v → Q v H'
abbrev NNu : List Str := ["_law_cell_here", "_law_many", "_law_found", "_law_state", "_law_digits", "_law_k"]
theorem scNu : FnScope NNu ["_law_cell_here", "_law_many"] (defScope sNumbers) := ⟨rfl, rfl, rfl, by decide +kernel, rfl, by decide +kernel, by decide +kernel⟩
theorem ok_numbers {f : Addr} {fd : FuncData} (F : Fun K "_law_numbers" "_law_numbers" sNumbers f fd) (T : Txt mg) : FnOk P w K mg base CX0 1 f fd ["_law_cell_here", "_law_many"] spNums := by
  refine F.ok scNu (fun vs H Q E h => ?_) (fun cdv A outer s H vs Q E hr h => ?_)
  · obtain ⟨G, c, m, _, rfl, _⟩ := h
    rfl
  · obtain ⟨G, c, m, fo, rfl, hm, q⟩ := h
    have e : Env (hide G H) (L2.start NNu [V.int c, V.int (m : Int)]) [some (.int c), some (.int (m : Int)), none, none, none, none] := env_start (rpa_two.mpr ⟨_, _, rfl, rp_int.mpr rfl, rp_int.mpr rfl⟩)
    refine ⟨_, pss_cons (ps_set (i := 2) scNu.nd rfl (Or.inl rfl) (pe_lst pa_nil))
      (pss_cons (ps_set (i := 3) scNu.nd rfl (Or.inl rfl) (pe_op op_mod (pe_op op_mul (pe_op op_add (pe_op op_mod (pv 0) pe_int) pe_int) pe_int) pe_int))
      (pss_cons (ps_set (i := 4) scNu.nd rfl (Or.inl rfl) pe_int)
      (pss_cons (ps_if (PW.pt (pw_or (pt_cmpR op_lt (pv 0) pe_int (nomark _)) (pw_or1 (pt_cmpR op_ge (pv 0) (pe_op op_pow pe_int pe_int) (nomark _)))))
        (pss_one (ps_set (i := 4) scNu.nd rfl (Or.inl rfl) (pe_callB call_abs (by rfl) T.abs b_abs (pa_cons (pv 0) pa_nil)))) pss_nil)
      (pss_cons (ps_for PassesOwn.never rfl (pi_range1 (by rfl) T.range (pa_cons (pv 1) pa_nil)) (pg_name (i := 5) scNu.nd rfl (Or.inl rfl))
        (pss_cons (ps_set (i := 3) scNu.nd rfl (Or.inl rfl) (pe_op op_mod (pe_op op_add (pe_op op_add (pe_op op_mul (pv 3) (pe_op op_add (pe_op op_mod (pv 3) pe_int) pe_int)) (pe_op op_mul pe_int (pv 5))) pe_int) pe_int))
        (pss_cons (ps_expr (pe_bm PySem.F.plainAttrs_list PySem.F.slot_list_append PySem.F.type_list_append mt_append (pv 2) (pa_cons
          (pe_ix ix_list (pe_lst (pa_cons (pv 3) (pa_cons (pe_op op_mod (pv 4) pe_int) pa_nil))) (pe_callTy call_int1 (by rfl) T.int b_int (pa_cons (pe_cmpR op_gt (pv 4) pe_int (nomark _)) pa_nil)) (fun _ _ => rfl)) pa_nil)))
        (pss_one (ps_set (i := 4) scNu.nd rfl (Or.inl rfl) (pe_op op_fdiv (pv 4) pe_int))))))
      (pss_one (ps_ret (pv 2))))))), ?_⟩
    refine ⟨Nat.zero_le _, fun o no => ?_⟩
    have hnew : ∀ a, one o a = true → H a = none := fun a ha => by rw [one_iff.mp ha]; exact no
    have E2 : Env (hide (un G (one o)) (upd H o (.lst []))) ((L2.start NNu [V.int c, V.int (m : Int)]).set 2 (some (.ref o))) [some (.int c), some (.int (m : Int)), none, none, none, none] := by
      rw [hide_un_upd one_self, hide_un_new hnew]
      exact e.drop (i := 2) _
    have f2 : Fok (un G (one o)) (upd H o (.lst [])) := fok_un (fo.ex (Ex.new no)) fun a ha => by rw [one_iff.mp ha]; exact .mk upd_same (fun _ z => by cases z)
    refine gs_setv (gv_op (gv_op (gv_op (gv_op (gv_var rfl) gv_int (g_I (by decide))) gv_int g_I0) gv_int (g_I (.inr ⟨by decide, by decide⟩))) gv_int (g_I (by decide))) f2 E2 fun v1 H1 e1 f1 r1 E1 => ?_
    refine gs_setv gv_int f1 E1 fun v3 H3 e3 f3 r3 E3 => ?_
    refine gs_ifAsg (d0 := .int 0) (d1 := .int (if c < 0 then -c else c)) rfl (gt_or (gt_test (gv_op (gv_var rfl) gv_int g_B0)) fun _ => gt_test (gv_op (gv_var rfl) (gv_op gv_int gv_int (g_I ⟨by decide, by decide, by decide⟩)) g_B0)) (fun _ => gv_cb (ga_1 (gv_var rfl)) gc_abs) f3 E3 fun σ4 H4 e4 f4 E4 hs4 => ?_
    generalize hb : (decide (c < 0) || decide ((10 : Int) ^ (18 : Int).toNat ≤ c)) = bb at E4
    have hdg : ∃ dg : Int, 0 ≤ dg ∧ (if bb then PyData.int (if c < 0 then -c else c) else PyData.int 0) = .int dg := by
      cases bb with
      | false => exact ⟨0, by decide, rfl⟩
      | true =>
        refine ⟨_, ?_, rfl⟩
        split <;> omega
    obtain ⟨dg, hdg0, hdg⟩ := hdg
    rw [hdg] at E4
    have ho4 : H4 o = some (.lst []) := e4 _ _ (e3 _ _ (e1 _ _ upd_same))
    have hσ4 : σ4[2]? = some (some (V.ref o)) := by rw [hs4 2 (by decide)]; rfl
    have x4 : Ex H H4 := ((Ex.new no).trans e1).trans (e3.trans e4)
    generalize hst : ((c % 1999999973 + 31) * 765432101 % 1999999973) = st at E4
    have hst0 : 0 ≤ st ∧ st < 1999999973 := by
      rw [← hst]
      omega
    obtain ⟨w3, q3, q3'⟩ := E4.2 3 _ rfl
    rw [rp_int] at q3'
    subst q3'
    obtain ⟨w4, q4, q4'⟩ := E4.2 4 _ rfl
    rw [rp_int] at q4'
    subst q4'
    refine gs_forM (F := G) (S := one o) (Γc := [some (.int c), some (.int (m : Int)), none, none, none, none]) (List.range m) (fun i : Nat => .int (i : Int)) (fun i σ' H' => σ'[2]? = some (some (V.ref o)) ∧ ∃ (xs : List Int) (st dg : Int), H' o = some (.lst (xs.map V.int)) ∧ xs.length = i ∧ (∀ x ∈ xs, 0 ≤ x ∧ x < 2000000000) ∧ σ'[3]? = some (some (.int st)) ∧ (0 ≤ st ∧ st < 1999999973) ∧ σ'[4]? = some (some (.int dg)) ∧ 0 ≤ dg)
      (gi_r1 (ga_1 (gv_var rfl)) (by omega)) (fo.ex x4) (fun i σ' H' ⟨_, xs, _, _, ho, _⟩ a ha => by rw [one_iff.mp ha]; exact .mk ho (fun _ z => by cases z)) E4 (fun _ _ z => (z.less (i := 3)).less (i := 4)) (fun i σ' H' x ⟨h1, xs, st, dg, h2, h3, h4, h5, h6, h7, h8⟩ => ⟨set_ne (by decide) h1, xs, st, dg, h2, h3, h4, set_ne (by decide) h5, h6, set_ne (by decide) h7, h8⟩)
      (fun i σ' H' H'' ⟨h1, xs, st, dg, h2, h3⟩ e' => ⟨h1, xs, st, dg, e' _ _ h2, h3⟩) ⟨hσ4, [], st, dg, ho4, rfl, (fun x hx => by cases hx), q3, hst0, q4, hdg0⟩ (fun i a ha σ' H' e' f' E' ⟨hσ, xs, st, dg, ho, hxl, hxb, h5, h6, h7, h8⟩ Nx Bk hN => ?_) (fun σ' H' e' f' E' ⟨hσ, xs, st, dg, ho, hxl, hxb, _⟩ => ?_)
    · have E5 := (E'.know (i := 3) h5 (rp_int.mpr rfl)).know (i := 4) h7 (rp_int.mpr rfl)
      have hi : i < m := by
        have hlt := (List.getElem?_eq_some_iff.mp ha).1
        rwa [List.length_range] at hlt
      refine gs_setv (gv_op (gv_op (gv_op (gv_op (gv_var rfl) (gv_op (gv_op (gv_var rfl) gv_int (g_I (by decide))) gv_int g_I0) (g_I (.inl ⟨by omega, by omega⟩))) (gv_op gv_int (gv_var rfl) (g_I (.inl ⟨by decide, by decide⟩))) g_I0) gv_int g_I0) gv_int (g_I (by decide))) f' E5 fun v6 H6 e6 f6 r6 E6 => ?_
      have v6' := rp_int.mp r6
      subst v6'
      refine ⟨.ref o, set_ne (by decide) hσ, .inl ⟨rfl, _, SqL.of (e6 _ _ ho)⟩, ?_⟩
      have hb0 : 0 ≤ (st * (st % 65521 + 40487) + 7 * (a : Int) + 5) % 1999999973 := Int.emod_nonneg _ (by decide)
      have hb1 : (st * (st % 65521 + 40487) + 7 * (a : Int) + 5) % 1999999973 < 1999999973 := Int.emod_lt_of_pos _ (by decide)
      generalize (st * (st % 65521 + 40487) + 7 * (a : Int) + 5) % 1999999973 = st2 at E6 hb0 hb1 ⊢
      have hv : ∃ z : Int, (0 ≤ z ∧ z < 2000000000) ∧ (if decide ((0 : Int) < dg) then PyData.int (dg % 1000000) else PyData.int st2) = .int z := by
        cases decide ((0 : Int) < dg) with
        | false => exact ⟨_, ⟨hb0, by omega⟩, rfl⟩
        | true => exact ⟨_, ⟨by omega, by omega⟩, rfl⟩
      obtain ⟨z, hz, ez⟩ := hv
      refine (gv_is (gv_ix2 (b := decide ((0 : Int) < dg)) (gv_var (d := .int st2) rfl) (gv_op (gv_var rfl) gv_int (g_I (by decide))) (gv_cb (ga_1 (gv_op (gv_var rfl) gv_int g_B0)) gc_intB)) ez) _ H6 (un G (one o)) f6 E6 _ fun v7 H7 e7 r7 => ?_
      have v7' := rp_int.mp r7
      subst v7'
      refine ⟨o, _, _, rfl, rfl, e7 _ _ (e6 _ _ ho), by rw [List.length_map, sizeLine_eq]; omega, ?_⟩
      have E8 := E6.ex (hide_ex e7)
      rw [← hide_un_upd (F := G) (S := one o) (x := .lst (xs.map V.int ++ [V.int z])) one_self] at E8
      have f8 : Fok (un G (one o)) (upd H7 o (.lst (xs.map V.int ++ [V.int z]))) := fun b hb => by
        by_cases q : b = o
        · rw [q]; exact ⟨_, upd_same, fun _ z => by cases z⟩
        · obtain ⟨x, y1, y2⟩ := (f6.ex e7) b hb
          exact ⟨x, by rw [upd_ne q]; exact y1, y2⟩
      refine gs_setv1 (gv_op (gv_var rfl) gv_int (g_I ⟨by decide, by decide⟩)) f8 E8 fun v9 H9 e9 f9 r9 E9 => ?_
      have v9' := rp_int.mp r9
      subst v9'
      have hl := E'.1
      refine hN _ _ (((Ex.exs (e6.trans e7)).trans (Exs.upd one_self)).trans (Ex.exs e9)) (((E9.less (i := 3)).less (i := 4)).less (i := 5)) ⟨set_ne (by decide) (set_ne (by decide) hσ), xs ++ [z], st2, dg / 1000000, ?_, by rw [List.length_append, hxl]; rfl, fun x hx => ?_, set_ne (by decide) (List.getElem?_set_self (by rw [hl]; simp)), ⟨hb0, hb1⟩, List.getElem?_set_self (by rw [List.length_set, hl]; simp), by omega⟩
      · rw [e9 _ _ upd_same, List.map_append]
        rfl
      · rcases List.mem_append.mp hx with y | y
        · exact hxb x y
        · rw [List.mem_singleton.mp y]; exact hz
    · rw [List.length_range] at hxl
      have fG : Fok G H' := fun a ha => f' a (by unfold un; rw [ha]; rfl)
      exact ⟨.ref o, hσ, q xs _ H' hxl hxb (Exs.ex e' x4 hnew) (rp_dL.mpr ⟨o, rfl, hide_at (fo.no no) ho⟩)⟩
/-! ### _law_base -/
def bOf (n : Nat) (x : Int) : Ev.Blk := if x % 8 = 0 then (if x / 8 % 2 = 0 then [] else (List.range n).map fun i : Nat => (i : Int)) else ((List.range n).filter fun i : Nat => decide (Builtin.bitAnd (x / 8 / 2 ^ (i : Int).toNat) 1 = 1)).map fun i : Nat => (i : Int)
def pBase : List PD → PD → Prop := fun ds d => ∃ (n : Nat) (x : Int), ds = [.int (n : Int), .int x] ∧ n ≤ 13 ∧ 0 ≤ x ∧ d = dL (bOf n x)
abbrev NBa : List Str := ["_law_n", "_law_x", "_law_point"]
theorem scBa : FnScope NBa ["_law_n", "_law_x"] (defScope sBase) := ⟨rfl, rfl, rfl, by decide +kernel, rfl, by decide +kernel, by decide +kernel⟩
theorem ok_base {f : Addr} {fd : FuncData} (F : Fun K "_law_base" "_law_base" sBase f fd) (T : Txt mg) : FnOk P w K mg base CX0 1 f fd ["_law_n", "_law_x"] (spD pBase) := by
  refine F.ok scBa (fun vs H Q E h => ?_) (fun cdv A outer s H vs Q E hr h => ?_)
  · obtain ⟨G, ds, d, fo, r, ⟨n, x, rfl, _⟩, q⟩ := h
    exact r.len
  · obtain ⟨G, ds, d, fo, r, ⟨n, x, rfl, hn, hx, rfl⟩, q⟩ := h
    have e : Env (hide G H) (L2.start NBa vs) [some (.int (n : Int)), some (.int x), none] := env_start r
    refine ⟨_, pss_cons (ps_if (pt_cmpR op_eq (pe_op op_mod (pv 1) pe_int) pe_int (nomark _)) (pss_one (ps_ret (pe_ix ix_list (pe_lst (pa_cons (pe_lst pa_nil) (pa_cons (pe_listRg rfl (by rfl) T.list (prg_1 (by rfl) T.range (pv 0))) pa_nil))) (pe_op op_mod (pe_op op_fdiv (pv 1) pe_int) pe_int) (fun _ _ => rfl)))) pss_nil)
      (pss_one (ps_ret (pe_lc (own := [("_law_point", 2)]) (g := gName 2) rfl scBa.nd (pi_range1 (by rfl) T.range (pa_cons (pv 0) pa_nil)) (blkOk_by (N := NBa) (sc := defScope sBase) (by decide +kernel))
        (fun _ _ _ _ _ => pg_name (i := 2) scBa.nd rfl (Or.inl rfl)) (fun _ _ _ _ _ => pts_one (pt_cmpR op_eq (pe_op op_and (pe_op op_shr (pe_op op_fdiv (pv 1) pe_int) (pv 2)) pe_int) pe_int (nomark _))) (fun _ _ _ _ _ => pv 2)))), ?_⟩
    have c1 : Gt (tTest (tOp rEq (tOp (rI (fun _ j => 0 < j) fun i j => .int (i % j)) (tVar 1) (tC (.int 8))) (tC (.int 0)))) [some (.int (n : Int)), some (.int x), none] (decide (x % 8 = 0)) := gt_test (gv_op (gv_op (gv_var rfl) gv_int (g_I (by decide))) gv_int g_eqI)
    refine gs_if c1 fo e (fun hb H1 e1 f1 E1 => ?_) (fun hb H1 e1 f1 E1 => ?_)
    · have h8 : x % 8 = 0 := of_decide_eq_true hb
      have hi : x / 8 % 2 = (if decide (x / 8 % 2 = 1) then (1 : Int) else 0) := by
        by_cases q : x / 8 % 2 = 1
        · rw [decide_eq_true q, if_pos rfl, q]
        · rw [decide_eq_false q, if_neg Bool.false_ne_true]
          omega
      refine gs_ret (gv_is (gv_ix2 (b := decide (x / 8 % 2 = 1)) (gv_lst ga_nil (by simp)) (gv_listRg (gv_var rfl) (by omega)) (gv_is (gv_op (gv_op (gv_var rfl) gv_int (g_I ⟨by decide, by decide⟩)) gv_int (g_I (by decide))) (by rw [← hi]))) ?_) f1 E1 fun v H' e' r' => q v H' (e1.trans e') r'
      unfold bOf
      rw [if_pos h8]
      by_cases z : x / 8 % 2 = 1
      · rw [decide_eq_true z, if_pos rfl, if_neg (by omega)]
      · rw [decide_eq_false z, if_neg Bool.false_ne_true, if_pos (by omega)]
        rfl
    · have h8 : ¬ x % 8 = 0 := of_decide_eq_false hb
      refine gs_ret (gv_is (gv_lc (List.range n) (fun i : Nat => .int (i : Int)) (fun i : Nat => decide (Builtin.bitAnd (x / 8 / 2 ^ (i : Int).toNat) 1 = 1)) (fun i : Nat => .int (i : Int)) (gi_r1 (ga_1 (gv_var rfl)) (by omega)) (by rw [List.length_range]; omega)
        (fun i _ => gt_test (gv_op (gv_op (gv_op (gv_op (gv_var rfl) gv_int (g_I (C := CDiv) ⟨by decide, by decide⟩)) (gv_var rfl) (g_I (C := fun _ j => 0 ≤ j) (Int.natCast_nonneg i))) gv_int g_I0) gv_int g_eqI)) (fun i _ _ => gv_var rfl)) ?_) f1 E1 fun v H' e' r' => q v H' (e1.trans e') r'
      unfold bOf
      rw [if_neg h8]
      exact map_int _ _
/-! ### _law_gcd -/
def pGcd : List PD → PD → Prop := fun ds d => ∃ a b : Nat, ds = [.int (a : Int), .int (b : Int)] ∧ d = .int (Nat.gcd a b : Int)
abbrev NGc : List Str := ["_law_one", "_law_other"]
theorem scGc : FnScope NGc ["_law_one", "_law_other"] (defScope sGcd) := ⟨rfl, rfl, rfl, by decide +kernel, rfl, by decide +kernel, by decide +kernel⟩
theorem ok_gcd {f : Addr} {fd : FuncData} (F : Fun K "_law_gcd" "_law_gcd" sGcd f fd) (T : Txt mg) : FnOk P w K mg base CX0 1 f fd ["_law_one", "_law_other"] (spD pGcd) := by
  refine F.ok scGc (fun vs H Q E h => ?_) (fun cdv A outer s H vs Q E hr h => ?_)
  · obtain ⟨G, ds, d, fo, r, ⟨a, b, rfl, _⟩, q⟩ := h
    exact r.len
  · obtain ⟨G, ds, d, fo, r, ⟨a, b, rfl, rfl⟩, q⟩ := h
    have e : Env (hide G H) (L2.start NGc vs) [some (.int (a : Int)), some (.int (b : Int))] := env_start r
    refine ⟨_, pss_cons (ps_while PassesOwn.never (pt_cmpR op_gt (pv 1) pe_int (nomark _))
        (pss_one (ps_par (i := 0) (j := 1) rfl scGc.nd rfl rfl (by decide) rfl rfl (pa_cons (pv 1) (pa_cons (pe_op op_mod (pv 0) (pv 1)) pa_nil)) (by rfl))))
      (pss_one (ps_ret (pv 0))), ?_⟩
    have hl := e.1
    obtain ⟨v0, h0, h0'⟩ := e.2 0 _ rfl
    obtain ⟨v1, h1, h1'⟩ := e.2 1 _ rfl
    have z0 := rp_int.mp h0'
    have z1 := rp_int.mp h1'
    subst z0 z1
    refine ⟨fun m σ' H' => ∃ a' : Nat, σ'.length = 2 ∧ σ'[0]? = some (some (.int (a' : Int))) ∧ σ'[1]? = some (some (.int (m : Int))) ∧ Nat.gcd a' m = Nat.gcd a b ∧ Ex H H', ⟨b, a, hl, h0, h1, rfl, Ex.refl H⟩, ?_⟩
    rintro m σ' H' ⟨a', hl', g0, g1, hg, e'⟩
    refine ⟨_, g1, _, _, rfl, rfl, _, rfl, ?_⟩
    by_cases hm : (0 : Int) < (m : Int)
    · rw [decide_eq_true hm]
      refine ⟨fun σ2 H2 => ∃ m', m' < m ∧ ∃ a' : Nat, σ2.length = 2 ∧ σ2[0]? = some (some (.int (a' : Int))) ∧ σ2[1]? = some (some (.int (m' : Int))) ∧ Nat.gcd a' m' = Nat.gcd a b ∧ Ex H H2, fun _ _ z => z, ?_⟩
      refine ⟨_, g1, _, g0, _, g1, _, _, rfl, rfl, hm, _, _, rfl, a' % m, Nat.mod_lt _ (by omega), m, by rw [List.length_set, List.length_set]; exact hl', set_ne (by decide) (List.getElem?_set_self (by rw [hl']; decide)), ?_, ?_, e'⟩
      · rw [List.getElem?_set_self (by rw [List.length_set, hl']; decide)]
        rfl
      · rw [← hg, Nat.gcd_comm m, ← Nat.gcd_rec, Nat.gcd_comm]
    · rw [decide_eq_false hm]
      have m0 : m = 0 := by omega
      subst m0
      rw [Nat.gcd_zero_right] at hg
      subst hg
      exact ⟨_, g0, q _ H' e' (rp_int.mpr rfl)⟩
/-! ### _law_moved -/
def mv (n by' t : Int) (b : Ev.Blk) : Ev.Blk := b.map fun p => (t * p + by') % n
def pMoved : List PD → PD → Prop := fun ds d => ∃ (b : Ev.Blk) (n : Nat) (k t : Int), (ds = [dL b, .int (n : Int), .int k, .int t] ∨ ds = [dT b, .int (n : Int), .int k, .int t]) ∧ 0 < n ∧ b.length < 64 ∧ 0 ≤ t ∧ t < 1000 ∧ d = dL (mv n k t b)
abbrev NMo : List Str := ["_law_base_here", "_law_n", "_law_by", "_law_times", "_law_point"]
theorem scMo : FnScope NMo ["_law_base_here", "_law_n", "_law_by", "_law_times"] (defScope sMoved) := ⟨rfl, rfl, rfl, by decide +kernel, rfl, by decide +kernel, by decide +kernel⟩
theorem ok_moved {f : Addr} {fd : FuncData} (F : Fun K "_law_moved" "_law_moved" sMoved f fd) (T : Txt mg) : FnOk P w K mg base CX0 1 f fd ["_law_base_here", "_law_n", "_law_by", "_law_times"] (spD pMoved) := by
  refine F.ok scMo (fun vs H Q E h => ?_) (fun cdv A outer s H vs Q E hr h => ?_)
  · obtain ⟨G, ds, d, fo, r, ⟨b, n, k, t, hds, _⟩, q⟩ := h
    rcases hds with rfl | rfl
    · exact r.len
    · exact r.len
  · obtain ⟨G, ds, d, fo, r, ⟨b, n, k, t, hds, hn, hl, ht0, ht1, rfl⟩, q⟩ := h
    have hn' : (0 : Int) < n := by omega
    have hh : ∀ {Γ : Ctx}, Γ.length = 5 → Γ[1]? = some (some (.int (n : Int))) → Γ[2]? = some (some (.int k)) → Γ[3]? = some (some (.int t)) → ∀ p : Int, Gv (tOp (rI (fun _ j => 0 < j) fun i j => .int (i % j)) (tOp (rI0 fun i j => .int (i + j)) (tOp (rI CMul fun i j => .int (i * j)) (tVar 3) (tVar 4)) (tVar 2)) (tVar 1)) (Γ.set 4 (some (.int p))) (.int ((t * p + k) % (n : Int))) := fun {Γ} hl h1 h2 h3 p =>
      gv_op (gv_op (gv_op (gv_var (by rw [List.getElem?_set_ne (by decide)]; exact h3)) (gv_var (by rw [List.getElem?_set_self (by omega)])) (g_I (.inl ⟨by omega, by omega⟩))) (gv_var (by rw [List.getElem?_set_ne (by decide)]; exact h2)) g_I0) (gv_var (by rw [List.getElem?_set_ne (by decide)]; exact h1)) (g_I hn')
    rcases hds with rfl | rfl
    · have e : Env (hide G H) (L2.start NMo vs) [some (dL b), some (.int (n : Int)), some (.int k), some (.int t), none] := env_start r
      refine ⟨_, pss_one (ps_ret (pe_lc (own := [("_law_point", 4)]) (g := gName 4) (tt := tYes) rfl scMo.nd (pi_list (pv 0)) (blkOk_by (N := NMo) (sc := defScope sMoved) (by decide +kernel))
        (fun _ _ _ _ _ => pg_name (i := 4) scMo.nd rfl (Or.inl rfl)) (fun _ _ _ _ _ => pts_nil) (fun _ _ _ _ _ => pe_op op_mod (pe_op op_add (pe_op op_mul (pv 3) (pv 4)) (pv 2)) (pv 1)))), ?_⟩
      exact gs_ret (gv_is (gv_lcA b PyData.int (fun p => .int ((t * p + k) % (n : Int))) (gi_list (gv_var rfl)) (by omega) (fun p _ => hh rfl rfl rfl rfl p)) (map_int _ _)) fo e q
    · have e : Env (hide G H) (L2.start NMo vs) [some (dT b), some (.int (n : Int)), some (.int k), some (.int t), none] := env_start r
      refine ⟨_, pss_one (ps_ret (pe_lc (own := [("_law_point", 4)]) (g := gName 4) (tt := tYes) rfl scMo.nd (pi_tup (pv 0)) (blkOk_by (N := NMo) (sc := defScope sMoved) (by decide +kernel))
        (fun _ _ _ _ _ => pg_name (i := 4) scMo.nd rfl (Or.inl rfl)) (fun _ _ _ _ _ => pts_nil) (fun _ _ _ _ _ => pe_op op_mod (pe_op op_add (pe_op op_mul (pv 3) (pv 4)) (pv 2)) (pv 1)))), ?_⟩
      exact gs_ret (gv_is (gv_lcA b PyData.int (fun p => .int ((t * p + k) % (n : Int))) (gi_tup (gv_var rfl)) (by omega) (fun p _ => hh rfl rfl rfl rfl p)) (map_int _ _)) fo e q
end
end EvW
-- part EvWalk8
namespace EvW
open PySem L2
/-! ### data of a shape -/
def Shp (k : Nat) (d : PD) : Prop := d.canLay0 = true ∧ d.depth ≤ k
theorem shp_int {k : Nat} {i : Int} : Shp k (.int i) := ⟨rfl, Nat.zero_le _⟩
theorem shp_all {k : Nat} : ∀ {ds : List PD}, (∀ d ∈ ds, Shp k d) → PyData.canLayAll0 ds = true ∧ PyData.depthAll ds ≤ k
  | [], _ => ⟨rfl, Nat.zero_le _⟩
  | d :: ds, h => by
    obtain ⟨h1, h2⟩ := h d List.mem_cons_self
    obtain ⟨h3, h4⟩ := shp_all fun x hx => h x (List.mem_cons_of_mem _ hx)
    refine ⟨?_, ?_⟩
    · rw [PyData.canLayAll0, h1, h3]; rfl
    · rw [PyData.depthAll]; omega
theorem shp_list {k : Nat} {ds : List PD} (h : ∀ d ∈ ds, Shp k d) : Shp (k + 1) (.list ds) := by
  obtain ⟨h3, h4⟩ := shp_all h
  exact ⟨by rw [PyData.canLay0]; exact h3, by rw [PyData.depth]; omega⟩
theorem shp_tup {k : Nat} {ds : List PD} (h : ∀ d ∈ ds, Shp k d) : Shp (k + 1) (.tuple ds) := by
  obtain ⟨h3, h4⟩ := shp_all h
  exact ⟨by rw [PyData.canLay0]; exact h3, by rw [PyData.depth]; omega⟩
theorem shp_dL {k : Nat} (ns : List Int) : Shp (k + 1) (dL ns) := shp_list fun d h => by
  obtain ⟨i, _, rfl⟩ := List.mem_map.mp h
  exact shp_int
theorem shp_dT {k : Nat} (ns : List Int) : Shp (k + 1) (dT ns) := shp_tup fun d h => by
  obtain ⟨i, _, rfl⟩ := List.mem_map.mp h
  exact shp_int
theorem shp_tups {k : Nat} (L : List Ev.Blk) : ∀ d ∈ L.map dT, Shp (k + 1) d := fun d h => by
  obtain ⟨i, _, rfl⟩ := List.mem_map.mp h
  exact shp_dT _
theorem shp_lay {k : Nat} (n : Nat) (L : List Ev.Blk) : Shp (k + 3) (dLay n L) := shp_tup fun d h => by
  rcases (List.mem_cons).mp h with rfl | h
  · exact shp_int
  · rw [List.mem_singleton.mp h]
    exact shp_tup (shp_tups L)
theorem shp_told {k : Nat} (T : List Ev.Ent) : Shp (k + 4) (dTold T) := shp_tup fun d h => by
  rcases (List.mem_cons).mp h with rfl | h
  · exact ⟨by decide +kernel, Nat.zero_le _⟩
  · rw [List.mem_singleton.mp h]
    refine shp_list fun d h => ?_
    obtain ⟨e, _, rfl⟩ := List.mem_map.mp h
    refine shp_tup fun d h => ?_
    rcases (List.mem_cons).mp h with rfl | h
    · exact shp_dT _
    · rw [List.mem_singleton.mp h]
      exact shp_int
theorem Shp.is {d : PD} (h : Shp 60 d) : SeqAt.shaped d = true := by
  unfold SeqAt.shaped
  rw [h.1, decide_eq_true (by have := h.2; omega)]
  rfl
theorem g_eqS {K : PySem.W.Frag} {d : PD} (h : Shp 60 d) : Gr2 (rEqD K) d d (.bool true) := by
  have := g_eqD (K := K) h.is h.is
  rwa [PySem.SeqAt.eqv_refl d h.1] at this
theorem g_neS' {K : PySem.W.Frag} {d : PD} (h : Shp 60 d) : Gr2 (rNeD K) d d (.bool false) := by
  have := g_neD (K := K) h.is h.is
  rwa [PySem.SeqAt.eqv_refl d h.1] at this
/-- a for over pairs -/
theorem gs_forP {α : Type} {K : PySem.W.Frag} {wi : TI} {j k : Nat} {Γ0 Γc : Ctx} {tb rest : TS} {D : Ends} {σ : L2.St} {H : Hp} {F S : Addr → Bool} (as : List α) (d1 d2 : α → PD) (Ct : Nat → L2.St → Hp → Prop) (hi : Gi wi Γ0 (as.map fun a => .tuple [d1 a, d2 a])) (f : Fok F H)
    (hS : ∀ i σ' H', Ct i σ' H' → ∀ a, S a = true → Lay H' a) (e : Env (hide (un F S) H) σ Γ0) (hΓ : ∀ (H' : Hp) (σ' : L2.St), Env H' σ' Γ0 → Env H' σ' Γc) (hC : ∀ i (σ' : L2.St) H' x y, Ct i σ' H' → Ct i ((σ'.set j x).set k y) H') (hE : ∀ i (σ' : L2.St) H' H'', Ct i σ' H' → Ex H' H'' → Ct i σ' H'') (c0 : Ct 0 σ H)
    (hs : ∀ (i : Nat) (a : α), as[i]? = some a → ∀ (σ' : L2.St) (H' : Hp), Exs S H H' → Fok (un F S) H' → Env (hide (un F S) H') σ' ((Γc.set j (some (d1 a))).set k (some (d2 a))) → Ct i σ' H' →
      ∀ (Nx Bk : L2.St → Hp → Prop), (∀ σ2 H2, Exs S H' H2 → Env (hide (un F S) H2) σ2 Γc → Ct (i + 1) σ2 H2 → Nx σ2 H2) → tb { D with nx := Nx, ct := Nx, bk := Bk } σ' H')
    (kk : ∀ σ' H', Exs S H H' → Fok (un F S) H' → Env (hide (un F S) H') σ' Γc → Ct as.length σ' H' → rest D σ' H') : tSeq (tFor wi (gTup K 2 (gCons (gName j) (gCons (gName k) gNil))) tb) rest D σ H :=
  hi σ H (un F S) (fok_un f (hS _ _ _ c0)) e _ fun J H1 e1 hy => by
    refine ⟨fun i m σ' H' => i + m = as.length ∧ Exs S H1 H' ∧ Env (hide (un F S) H') σ' Γc ∧ Ct i σ' H', ⟨as.length, by omega, Exs.refl, hΓ _ _ (e.ex (hide_ex e1)), hE _ _ _ _ c0 e1⟩, ?_⟩
    rintro i m σ' H' ⟨him, e', E', c'⟩
    have hyi := hy i H' (fun a x h => (Exs.hide e' (F := F) a x h) |> fun z => hide_in _ _ z)
    have f' : Fok (un F S) H' := fok_un ((f.ex e1).exs e' (hS _ _ _ c')) (hS _ _ _ c')
    have e'' : Exs S H H' := (Ex.exs e1).trans e'
    by_cases hlt : i < as.length
    · obtain ⟨hgo, hyld⟩ := hyi.1 (by simpa using hlt)
      refine .inr ⟨hgo, fun σ2 H2 => Exs S H1 H2 ∧ Env (hide (un F S) H2) σ2 Γc ∧ Ct (i + 1) σ2 H2, fun σ2 H2 ⟨h1, h2⟩ => ⟨m - 1, by omega, by omega, h1, h2⟩, fun x H3 hx => ?_⟩
      obtain ⟨rfl, d, hd, hrx⟩ := hyld x H3 hx
      have ha : as[i]? = some as[i] := List.getElem?_eq_getElem hlt
      have hd' : d = .tuple [d1 as[i], d2 as[i]] := by
        rw [List.getElem?_map, ha] at hd
        exact (Option.some.inj hd).symm
      subst hd'
      have hrx' := hrx.ex (Exs.hide e')
      obtain ⟨p, xs, rfl, h2, h3⟩ := rp_tup.mp hrx'
      obtain ⟨v1, v2, rfl, r1, r2⟩ := rpa_two.mp h3
      exact ⟨p, _, rfl, SqT.of (hide_in _ _ h2), rfl, v1, [v2], rfl, v2, [], rfl, rfl, hs i _ ha _ H3 e'' f' ((E'.set r1).set r2) (hC _ _ _ _ _ c') _ _ fun σ2 H2 h1 h2 h3 => ⟨e'.trans h1, h2, h3⟩⟩
    · have hl : i = as.length := by omega
      subst hl
      exact .inl ⟨hyi.2 (by simp), kk σ' H' e'' f' E' c'⟩
end EvW
-- part EvWalk9
namespace EvW
open PySem L2
section
variable {P : Program} {w : World} {K : PySem.W.Frag} {mg : Str → Option Value} {base : Heap}
theorem mv_tn (n by' : Int) (b : Ev.Blk) : Ev.srt (mv n by' 1 b) = Ev.tn n by' b := by
  unfold mv Ev.tn
  congr 1
  refine List.map_congr_left fun p _ => ?_
  rw [Int.one_mul]
/-! ### _law_developed_again -/
def pAgain : List PD → PD → Prop := fun ds d => ∃ (n : Nat) (T : List Ev.Ent), ds = [.int (n : Int), .list (T.map dE)] ∧ 0 < n ∧ n ≤ 13 ∧ T.length ≤ 100 ∧ (∀ e ∈ T, e.1.length < 64 ∧ 0 ≤ e.2 ∧ e.2 ≤ 100) ∧ d = .list ((Ev.srtB (Ev.again n T)).map dT)
abbrev NAg : List Str := ["_law_n", "_law_told", "_law_found", "_law_base_here", "_law_often", "_law_some", "_law_by"]
theorem scAg : FnScope NAg ["_law_n", "_law_told"] (defScope sAgain) := ⟨rfl, rfl, rfl, by decide +kernel, rfl, by decide +kernel, by decide +kernel⟩
theorem so_len (n : Nat) (b : Ev.Blk) : (Ev.so n b).length ≤ n := by
  have h : (Ev.so n b).length ≤ (Ev.orb n b).length := List.Nodup.length_le_of_subset (Ev.so_nodup n b) fun x hx => Ev.mem_so.mp hx
  rwa [Ev.orb_len] at h
theorem again_len {n : Nat} : ∀ {T : List Ev.Ent}, (∀ e ∈ T, e.2 ≤ 100) → (Ev.again n T).length ≤ T.length * (100 * n)
  | [], _ => by simp [Ev.again]
  | e :: T, h => by
    have ih := again_len (n := n) fun x hx => h x (List.mem_cons_of_mem _ hx)
    have h1 := h e List.mem_cons_self
    unfold Ev.again at *
    rw [List.flatMap_cons, List.length_append, List.length_cons, Nat.add_mul, Nat.one_mul]
    have h2 : (List.replicate e.2.toNat (Ev.so n e.1)).flatten.length ≤ 100 * n := by
      rw [List.length_flatten, List.map_replicate, List.sum_replicate_nat]
      exact Nat.mul_le_mul (by omega) (so_len n e.1)
    omega
theorem ok_again {f f1 : Addr} {fd fd1 : FuncData} (F : Fun K "_law_developed_again" "_law_developed_again" sAgain f fd) (T : Txt mg) (C1 : Cal P w K mg base 1 "_law_moved" ["_law_base_here", "_law_n", "_law_by", "_law_times"] (spD pMoved) f1 fd1) :
    FnOk P w K mg base CX0 2 f fd ["_law_n", "_law_told"] (spD pAgain) := by
  refine F.ok scAg (fun vs H Q E h => ?_) (fun cdv A outer s H vs Q E hr h => ?_)
  · obtain ⟨G, ds, d, fo, r, ⟨n, U, rfl, _⟩, q⟩ := h
    exact r.len
  · obtain ⟨G, ds, d, fo, r, ⟨n, U, rfl, hn0, hn13, hU, hUe, rfl⟩, q⟩ := h
    have e : Env (hide G H) (L2.start NAg vs) [some (.int (n : Int)), some (.list (U.map dE)), none, none, none, none, none] := env_start r
    refine ⟨_, pss_cons (ps_set (i := 2) scAg.nd rfl (Or.inl rfl) (pe_lst pa_nil))
      (pss_cons (ps_for PassesOwn.never rfl (pi_list (pv 1)) (pg_tup rfl (pgs_cons (pg_name (i := 3) scAg.nd rfl (Or.inr rfl)) (pgs_cons (pg_name (i := 4) scAg.nd rfl (Or.inl rfl)) pgs_nil)))
        (pss_cons (ps_set (i := 5) scAg.nd rfl (Or.inl rfl) (pe_callB (cr_sortSetB rfl (hu64 hr)) (by rfl) T.sorted b_sorted (pa_cons (pe_callTy (cr_setOfT rfl (hu64 hr)) (by rfl) T.set b_set (pa_cons
            (pe_lc (own := [("_law_by", 6)]) (g := gName 6) (tt := tYes) rfl scAg.nd (pi_range1 (by rfl) T.range (pa_cons (pv 0) pa_nil)) (blkOk_by (N := NAg) (sc := defScope sAgain) (by decide +kernel))
              (fun _ _ _ _ _ => pg_name (i := 6) scAg.nd rfl (Or.inl rfl)) (fun _ _ _ _ _ => pts_nil) (fun _ _ _ _ _ => pe_callTy (call_tupleK rfl) (by rfl) T.tuple b_tuple (pa_cons (pe_callB (cr_sortedK rfl) (by rfl) T.sorted b_sorted (pa_cons
                (pe_cal C1 hr (by rfl) (pa_cons (pv 3) (pa_cons (pv 0) (pa_cons (pv 6) (pa_cons pe_int pa_nil))))) pa_nil)) pa_nil))) pa_nil)) pa_nil)))
          (pss_one (ps_expr (pe_bm PySem.F.plainAttrs_list PySem.F.slot_list_extend PySem.F.type_list_extend mt_extend (pv 2) (pa_cons (pe_op op_rep (pv 5) (pv 4)) pa_nil))))))
      (pss_one (ps_ret (pe_callB (cr_sortB (hu64 hr)) (by rfl) T.sorted b_sorted (pa_cons (pv 2) pa_nil))))), ?_⟩
    refine ⟨Nat.zero_le _, fun o no => ?_⟩
    have hnew : ∀ a, one o a = true → H a = none := fun a ha => by rw [one_iff.mp ha]; exact no
    have E2 : Env (hide (un G (one o)) (upd H o (.lst []))) ((L2.start NAg vs).set 2 (some (.ref o))) [some (.int (n : Int)), some (.list (U.map dE)), none, none, none, none, none] := by
      rw [hide_un_upd one_self, hide_un_new hnew]
      exact e.drop (i := 2) _
    have hσ2 : ((L2.start NAg vs).set 2 (some (.ref o)))[2]? = some (some (V.ref o)) := by
      have hl := e.1
      exact List.getElem?_set_self (by rw [hl]; simp)
    refine gs_forP (K := K) (F := G) (S := one o) U (fun e : Ev.Ent => dT e.1) (fun e : Ev.Ent => .int e.2) (fun i σ' H' => σ'[2]? = some (some (V.ref o)) ∧ ∃ xs, H' o = some (.lst xs) ∧ RpA (hide (un G (one o)) H') ((Ev.again n (U.take i)).map dT) xs)
      (gi_list (gv_var rfl)) (fo.ex (Ex.new no)) (fun i σ' H' ⟨_, xs, ho, _⟩ a ha => by rw [one_iff.mp ha]; exact .mk ho (fun _ z => by cases z)) E2 (fun _ _ z => z) (fun i σ' H' x y ⟨h1, h2⟩ => ⟨set_ne (by decide) (set_ne (by decide) h1), h2⟩)
      (fun i σ' H' H'' ⟨h1, xs, h2, h3⟩ e' => ⟨h1, xs, e' _ _ h2, h3.ex (hide_ex e')⟩) ⟨hσ2, [], upd_same, rpa_nil.mpr rfl⟩ (fun i en hen σ' H' e' f' E' ⟨hσ, xs, ho, hx⟩ Nx Bk hN => ?_) (fun σ' H' e' f' E' ⟨hσ, xs, ho, hx⟩ => ?_)
    · obtain ⟨hb, hc0, hc1⟩ := hUe en (List.mem_of_getElem? hen)
      refine gs_setv (d := .list ((Ev.so n en.1).map dT)) (gv_sortSet (L := Ev.orb n en.1) (gv_is (gv_lcA (List.range n) (fun i : Nat => .int (i : Int)) (fun i : Nat => dT (Ev.tn n i en.1)) (gi_r1 (ga_1 (gv_var rfl)) (by omega)) (by rw [List.length_range]; omega)
        (fun k _ => gv_is (gv_cb (ga_1 (gv_cb (ga_1 (gv_call (Pre := pMoved) (ga_cons (gv_var rfl) (ga_3 (gv_var rfl) (gv_var rfl) gv_int)) ⟨en.1, n, (k : Int), 1, .inr rfl, hn0, hb, by decide, by decide, rfl⟩)) (gc_sortI (ns := mv n (k : Int) 1 en.1) (by unfold mv; rw [List.length_map]; exact hb)))) gc_tuple) (by rw [mv_tn]))) (map_tup _ _)) (by rw [Ev.orb_len]; omega)) f' E' fun v H2 e2 f2 r2 E2 => ?_
      refine ⟨.ref o, set_ne (by decide) hσ, .inl ⟨rfl, xs, SqL.of (e2 _ _ ho)⟩, ?_⟩
      refine (gv_op (gv_var rfl) (gv_var rfl) (g_repD (ds := (Ev.so n en.1).map dT) (n := en.2) hc0 (by omega) (by rw [List.length_map]; have := so_len n en.1; omega))) _ H2 (un G (one o)) f2 E2 _ fun v3 H3 e3 r3 => ?_
      obtain ⟨a, ys, rfl, h3, h4⟩ := rp_list.mp r3
      have hl1 := hx.len
      have hl2 := h4.len
      have hz : xs.length + ys.length ≤ 16777216 := by
        rw [List.length_map] at hl1
        have a1 := again_len (n := n) (T := U.take i) fun x hx => (hUe x (List.mem_of_mem_take hx)).2.2
        have a2 : (U.take i).length * (100 * n) ≤ 100 * (100 * 13) := Nat.mul_le_mul (by rw [List.length_take]; omega) (by omega)
        rw [List.length_flatten, List.map_replicate, List.sum_replicate_nat, List.length_map] at hl2
        have a3 : en.2.toNat * (Ev.so n en.1).length ≤ 100 * 13 := Nat.mul_le_mul (by omega) (by have := so_len n en.1; omega)
        omega
      show rExtend (.ref o) [.ref a] H3 (fun _ H1 => Nx _ H1)
      refine ⟨o, a, xs, ys, rfl, rfl, e3 _ _ (e2 _ _ ho), hide_in _ _ h3, by rw [sizeLine_eq]; omega, hN _ _ (((Ex.exs e2).trans (Ex.exs e3)).trans (Exs.upd one_self)) ?_ ⟨set_ne (by decide) hσ, _, upd_same, ?_⟩⟩
      · rw [hide_un_upd one_self]
        exact (((E2.ex (hide_ex e3)).less (i := 3)).less (i := 4)).less (i := 5)
      · rw [hide_un_upd one_self]
        unfold Ev.again
        rw [flatMap_take hen, List.map_append, List.map_flatten, List.map_replicate]
        exact (hx.ex (hide_ex (e2.trans e3))).append h4
    · have fG : Fok G H' := fun a ha => f' a (by unfold un; rw [ha]; rfl)
      rw [List.take_length] at hx
      have E3 : Env (hide G H') σ' [some (.int (n : Int)), some (.list (U.map dE)), some (.list ((Ev.again n U).map dT)), none, none, none, none] :=
        (E'.ex hide_un_in).know (i := 2) hσ (rp_list.mpr ⟨o, xs, rfl, hide_at (fo.no no) ho, hx.ex hide_un_in⟩)
      exact gs_ret (gv_cb (ga_1 (gv_var rfl)) gc_sortBL) fG E3 fun v H3 e3 r3 => q v H3 ((Exs.ex e' (Ex.new no) hnew).trans e3) r3
end
end EvW
-- part EvWalkA
namespace EvW
open PySem L2
section
variable {P : Program} {w : World} {K : PySem.W.Frag} {mg : Str → Option Value} {base : Heap}
/-! ### _law_pairs_right -/
def pPairs : List PD → PD → Prop := fun ds d => ∃ (n : Nat) (bases : List Ev.Blk), ds = [.int (n : Int), .tuple ((Ev.dev n bases).map dT), dL (Ev.diffs n bases)] ∧ Good n bases ∧ d = .bool true
abbrev NPa : List Str := ["_law_n", "_law_blocks", "_law_counts", "_law_a", "_law_b", "_law_many", "_law_block"]
theorem scPa : FnScope NPa ["_law_n", "_law_blocks", "_law_counts"] (defScope sPairs) := ⟨rfl, rfl, rfl, by decide +kernel, rfl, by decide +kernel, by decide +kernel⟩
theorem dev_few {n : Nat} {bases : List Ev.Blk} (g : Good n bases) : (Ev.dev n bases).length ≤ 39 := by
  rw [Ev.dev_len]
  exact Nat.mul_le_mul (g.few) (g.n13)
theorem ok_pairs {f : Addr} {fd : FuncData} (F : Fun K "_law_pairs_right" "_law_pairs_right" sPairs f fd) (T : Txt mg) : FnOk P w K mg base CX0 1 f fd ["_law_n", "_law_blocks", "_law_counts"] (spD pPairs) := by
  refine F.ok scPa (fun vs H Q E h => ?_) (fun cdv A outer s H vs Q E hr h => ?_)
  · obtain ⟨G, ds, d, fo, r, ⟨n, bases, rfl, _⟩, q⟩ := h
    exact r.len
  · obtain ⟨G, ds, d, fo, r, ⟨n, bases, rfl, g, rfl⟩, q⟩ := h
    have e : Env (hide G H) (L2.start NPa vs) [some (.int (n : Int)), some (.tuple ((Ev.dev n bases).map dT)), some (dL (Ev.diffs n bases)), none, none, none, none] := env_start r
    have hn0 := g.n0
    have hn13 := g.n13
    refine ⟨_, pss_cons (ps_for PassesOwn.never rfl (pi_range1 (by rfl) T.range (pa_cons (pv 0) pa_nil)) (pg_name (i := 3) scPa.nd rfl (Or.inr rfl))
        (pss_cons (ps_for PassesOwn.never rfl (pi_range2 (by rfl) T.range (pa_cons (pe_op op_add (pv 3) pe_int) (pa_cons (pv 0) pa_nil))) (pg_name (i := 4) scPa.nd rfl (Or.inr rfl))
          (pss_cons (ps_set (i := 5) scPa.nd rfl (Or.inl rfl) (pe_callB call_len_seq (by rfl) T.len b_len (pa_cons
            (pe_lc (own := [("_law_block", 6)]) (g := gName 6) rfl scPa.nd (pi_tup (pv 1)) (blkOk_by (N := NPa) (sc := defScope sPairs) (by decide +kernel))
              (fun _ _ _ _ _ => pg_name (i := 6) scPa.nd rfl (Or.inl rfl)) (fun _ _ _ _ _ => pts_one (PW.pt (pw_and (pt_cmpR (op_inK rfl) (pv 3) (pv 6) (by rfl)) (pw_and1 (pt_cmpR (op_inK rfl) (pv 4) (pv 6) (by rfl)))))) (fun _ _ _ _ _ => pv 6)) pa_nil)))
          (pss_one (ps_if (PW.pt (pw_or (pt_cmpR op_ne (pv 5) (pe_ix ix_list (pv 2) (pe_op op_sub (pe_op op_sub (pv 4) (pv 3)) pe_int) (fun _ _ => rfl)) (nomark _)) (pw_or1 (pt_cmpR op_ne (pv 5) (pe_ix ix_list (pv 2) (pe_op op_sub (pe_op op_add (pe_op op_sub (pv 0) (pv 4)) (pv 3)) pe_int) (fun _ _ => rfl)) (nomark _))))) pss_never pss_nil)))) pss_nil))
      (pss_one (ps_ret pe_bl)), ?_⟩
    refine gs_for (List.range n) (fun i : Nat => .int (i : Int)) (fun _ => [some (.int (n : Int)), some (.tuple ((Ev.dev n bases).map dT)), some (dL (Ev.diffs n bases)), none, none, none, none]) (gi_r1 (ga_1 (gv_var rfl)) (by omega)) fo e (fun _ _ z => z) (fun i a ha σ1 H1 e1 f1 E1 Nx Bk hN => ?_) (fun σ' H' e' f' E' => ?_)
    · have ei : a = i ∧ i < n := by
        have hlt := (List.getElem?_eq_some_iff.mp ha).1
        rw [List.length_range] at hlt
        rw [List.getElem?_range hlt] at ha
        exact ⟨(Option.some.inj ha).symm, hlt⟩
      obtain ⟨rfl, hlt⟩ := ei
      refine gs_for (List.range ((n : Int) - ((a : Int) + 1)).toNat) (fun i : Nat => .int ((a : Int) + 1 + (i : Int))) (fun _ => [some (.int (n : Int)), some (.tuple ((Ev.dev n bases).map dT)), some (dL (Ev.diffs n bases)), some (.int (a : Int)), none, none, none]) (gi_r2 (ga_2 (gv_op (gv_var rfl) gv_int g_I0) (gv_var rfl)) ⟨by omega, by omega⟩ ⟨by omega, by omega⟩) f1 E1 (fun _ _ z => z) (fun k b hb σ2 H2 e2 f2 E2 Nx2 Bk2 hN2 => ?_) (fun σ2 H2 e2 f2 E2 => hN σ2 H2 e2 (E2.less (i := 3)))
      have ek : b = k ∧ k < ((n : Int) - ((a : Int) + 1)).toNat := by
        have hlt := (List.getElem?_eq_some_iff.mp hb).1
        rw [List.length_range] at hlt
        rw [List.getElem?_range hlt] at hb
        exact ⟨(Option.some.inj hb).symm, hlt⟩
      obtain ⟨rfl, hk⟩ := ek
      generalize hc : (a : Int) + 1 + (b : Int) = c at E2
      have hac : (a : Int) < c := by omega
      have hcn : c < n := by omega
      have dp := Ev.dev_pairs hn0 (a := (a : Int)) (c := c) (by omega) hac hcn g.bas
      have dl := dev_few g
      refine gs_asg (d := .int (((Ev.dev n bases).countP fun blk => decide ((a : Int) ∈ blk) && decide (c ∈ blk) : Nat) : Int)) (gv_is (gv_cb (ga_1 (gv_lc (Ev.dev n bases) dT (fun blk => decide ((a : Int) ∈ blk) && decide (c ∈ blk)) dT (gi_tup (gv_var rfl)) (by omega)
        (fun blk _ => gt_and (gt_test (gv_op (gv_var rfl) (gv_var rfl) g_inT)) fun _ => gt_test (gv_op (gv_var rfl) (gv_var rfl) g_inT)) (fun blk _ _ => gv_var rfl))) gc_lenL) (by rw [List.length_map, List.countP_eq_length_filter])) f2 E2 fun σ3 H3 e3 f3 E3 => ?_
      have ix1 : atI ((Ev.diffs n bases).map PyData.int) (c - (a : Int) - 1) = some (.int (((Ev.DL n bases).count (c - (a : Int)) : Nat) : Int)) := by
        refine at_any (j := (c - (a : Int) - 1).toNat) (by omega) ?_
        rw [List.getElem?_map, Ev.diffs_get (by omega), show (((c - (a : Int) - 1).toNat + 1 : Nat) : Int) = c - (a : Int) by omega]
        rfl
      have ix2 : atI ((Ev.diffs n bases).map PyData.int) ((n : Int) - c + (a : Int) - 1) = some (.int (((Ev.DL n bases).count ((n : Int) - c + (a : Int)) : Nat) : Int)) := by
        refine at_any (j := ((n : Int) - c + (a : Int) - 1).toNat) (by omega) ?_
        rw [List.getElem?_map, Ev.diffs_get (by omega), show ((((n : Int) - c + (a : Int) - 1).toNat + 1 : Nat) : Int) = (n : Int) - c + (a : Int) by omega]
        rfl
      refine gs_no1 (gt_is (gt_or (gt_test (gv_op (gv_var rfl) (gv_op (gv_var rfl) (gv_op (gv_op (gv_var rfl) (gv_var rfl) g_I0) gv_int g_I0) (g_ixL ix1)) g_neI)) fun _ => gt_test (gv_op (gv_var rfl) (gv_op (gv_var rfl) (gv_op (gv_op (gv_op (gv_var rfl) (gv_var rfl) g_I0) (gv_var rfl) g_I0) gv_int g_I0) (g_ixL ix2)) g_neI)) ?_) f3 E3 fun H4 e4 f4 E4 => ?_
      · rw [dp.1]
        have e2 := dp.1.symm.trans dp.2
        rw [← e2]
        simp
      · exact hN2 σ3 H4 (e3.trans e4) ((E4.less (i := 4)).less (i := 5))
    · exact gs_ret gv_bl f' E' fun v H3 e3 r3 => q v H3 (e'.trans e3) r3
end
end EvW
-- part EvWalkB
namespace EvW
open PySem L2
section
variable {P : Program} {w : World} {K : PySem.W.Frag} {mg : Str → Option Value} {base : Heap}
theorem diffs_perm {n : Nat} {L M : List Ev.Blk} (h : (Ev.DL n L).Perm (Ev.DL n M)) : Ev.diffs n L = Ev.diffs n M := by
  unfold Ev.diffs
  rw [Ev.hist_perm h]
theorem Good.trn {n : Nat} {bases : List Ev.Blk} (g : Good n bases) : Ev.Trn n (Ev.dev n bases) := Ev.dev_trn g.n0 g.bas
theorem g_eqS2 {d d' : PD} (h : Shp 60 d) (e : d = d') : Gr2 (rEqD K) d d' (.bool true) := by
  subst e
  exact g_eqS h
theorem g_neS2 {d d' : PD} (h : Shp 60 d) (e : d = d') : Gr2 (rNeD K) d d' (.bool false) := by
  subst e
  exact g_neS' h
theorem turns_pre {n : Nat} {bases : List Ev.Blk} (g : Good n bases) : pTurns [dLay n (Ev.dev n bases)] (dTold (Ev.toldOf n (Ev.dev n bases))) := ⟨n, _, rfl, g.n0, g.n13, by have := dev_few g; omega, g.trn, rfl⟩
/-! ### _law_alike -/
def pAlike : List PD → PD → Prop := fun ds d => ∃ (n : Nat) (bases other : List Ev.Blk), ds = [.int (n : Int), dBs bases, dBs other] ∧ Good n bases ∧ Good n other ∧ (Ev.DL n other).Perm (Ev.DL n bases) ∧ (Ev.dev n other).Perm (Ev.dev n bases) ∧ d = .bool true
abbrev NAl : List Str := ["_law_n", "_law_bases", "_law_other", "_law_one", "_law_two"]
theorem scAl : FnScope NAl ["_law_n", "_law_bases", "_law_other"] (defScope sAlike) := ⟨rfl, rfl, rfl, by decide +kernel, rfl, by decide +kernel, by decide +kernel⟩
theorem ok_alike {f f1 f2 f3 f4 : Addr} {fd fd1 fd2 fd3 fd4 : FuncData} (F : Fun K "_law_alike" "_law_alike" sAlike f fd) (T : Txt mg) (C1 : Cal P w K mg base 5 "differences" ["n", "bases"] (spD pDiffs) f1 fd1) (C2 : Cal P w K mg base 5 "developed" ["n", "bases"] (spD pDev) f2 fd2)
    (C3 : Cal P w K mg base 1 "sorted_layout" ["layout"] (spD pSortedL) f3 fd3) (C4 : Cal P w K mg base 2 "turns_told" ["layout"] (spD pTurns) f4 fd4) : FnOk P w K mg base CX0 6 f fd ["_law_n", "_law_bases", "_law_other"] (spD pAlike) := by
  refine F.ok scAl (fun vs H Q E h => ?_) (fun cdv A outer s H vs Q E hr h => ?_)
  · obtain ⟨G, ds, d, fo, r, ⟨n, bases, other, rfl, _⟩, q⟩ := h
    exact r.len
  · obtain ⟨G, ds, d, fo, r, ⟨n, bases, other, rfl, g, g2, hD, hL, rfl⟩, q⟩ := h
    have e : Env (hide G H) (L2.start NAl vs) [some (.int (n : Int)), some (dBs bases), some (dBs other), none, none] := env_start r
    have hr1 := hr.mono (show 1 ≤ 5 by decide)
    have hr2 := hr.mono (show 2 ≤ 5 by decide)
    refine ⟨_, pss_cons (ps_if (pt_cmpR (op_neD (hu64 hr)) (pe_cal C1 hr (by rfl) (pa_cons (pv 0) (pa_cons (pv 2) pa_nil))) (pe_cal C1 hr (by rfl) (pa_cons (pv 0) (pa_cons (pv 1) pa_nil))) (nomark _)) pss_never pss_nil)
      (pss_cons (ps_set (i := 3) scAl.nd rfl (Or.inl rfl) (pe_cal C2 hr (by rfl) (pa_cons (pv 0) (pa_cons (pv 1) pa_nil))))
      (pss_cons (ps_set (i := 4) scAl.nd rfl (Or.inl rfl) (pe_cal C2 hr (by rfl) (pa_cons (pv 0) (pa_cons (pv 2) pa_nil))))
      (pss_one (ps_ret (pe_and (pe_cmpR (op_eqD (hu64 hr)) (pe_cal C3 hr1 (by rfl) (pa_cons (pv 3) pa_nil)) (pe_cal C3 hr1 (by rfl) (pa_cons (pv 4) pa_nil)) (nomark _))
        (pe_one (pe_cmpR (op_eqD (hu64 hr)) (pe_cal C4 hr2 (by rfl) (pa_cons (pv 3) pa_nil)) (pe_cal C4 hr2 (by rfl) (pa_cons (pv 4) pa_nil)) (nomark _)))))))), ?_⟩
    have eD : dL (Ev.diffs n other) = dL (Ev.diffs n bases) := by rw [diffs_perm hD]
    have eS : dLay n (Ev.srtB (Ev.dev n bases)) = dLay n (Ev.srtB (Ev.dev n other)) := by rw [Ev.srtB_congr hL]
    have eT : dTold (Ev.toldOf n (Ev.dev n bases)) = dTold (Ev.toldOf n (Ev.dev n other)) := by rw [Ev.toldOf_perm g.n0 g.trn hL.symm]
    refine gs_no (gt_test (gv_op (gv_call (Pre := pDiffs) (ga_2 (gv_var rfl) (gv_var rfl)) ⟨n, other, rfl, g2, rfl⟩) (gv_call (Pre := pDiffs) (ga_2 (gv_var rfl) (gv_var rfl)) ⟨n, bases, rfl, g, rfl⟩) (g_neS2 (shp_dL _) eD))) fo e fun H1 e1 f1 E1 => ?_
    refine gs_asg (gv_call (Pre := pDev) (ga_2 (gv_var rfl) (gv_var rfl)) ⟨n, bases, rfl, g, rfl⟩) f1 E1 fun σ2 H2 e2 f2 E2 => ?_
    refine gs_asg (gv_call (Pre := pDev) (ga_2 (gv_var rfl) (gv_var rfl)) ⟨n, other, rfl, g2, rfl⟩) f2 E2 fun σ3 H3 e3 f3 E3 => ?_
    refine gs_ret (gv_is (gv_and (gv_op (gv_call (Pre := pSortedL) (ga_1 (gv_var rfl)) ⟨n, _, rfl, rfl⟩) (gv_call (Pre := pSortedL) (ga_1 (gv_var rfl)) ⟨n, _, rfl, rfl⟩) (g_eqS2 (shp_lay _ _) eS)) fun _ => gv_op (gv_call (Pre := pTurns) (ga_1 (gv_var rfl)) (turns_pre g)) (gv_call (Pre := pTurns) (ga_1 (gv_var rfl)) (turns_pre g2)) (g_eqS2 (shp_told _) eT)) rfl) f3 E3 fun v H' e' r' => q v H' (((e1.trans e2).trans e3).trans e') r'
end
end EvW
-- part EvLaw1
namespace EvW
open PySem L2
theorem rng_bas (n : Nat) : Ev.Bas n ((List.range n).map fun i : Nat => (i : Int)) := ⟨Ev.nodup_map_on List.nodup_range fun x _ y _ e => by exact Int.ofNat.inj e, fun x hx => by
  obtain ⟨i, hi, rfl⟩ := List.mem_map.mp hx
  rw [List.mem_range] at hi
  omega⟩
theorem bOf_bas (n : Nat) (x : Int) : Ev.Bas n (bOf n x) := by
  unfold bOf
  split
  · split
    · exact ⟨List.nodup_nil, fun x hx => by cases hx⟩
    · exact rng_bas n
  · have h := rng_bas n
    exact ⟨Ev.nodup_map_on (List.nodup_range.filter _) fun x _ y _ e => by exact Int.ofNat.inj e, fun x hx => by
      obtain ⟨i, hi, rfl⟩ := List.mem_map.mp hx
      exact h.bd _ (List.mem_map.mpr ⟨i, (List.mem_filter.mp hi).1, rfl⟩)⟩
theorem xs_at {xs : List Int} {i : Nat} (h : i < xs.length) {z : Int} (e : z = (i : Int)) : atI (xs.map PyData.int) z = some (.int (xs.getD i 0)) := by
  refine at_any e ?_
  rw [List.getElem?_map, List.getElem?_eq_getElem h]
  show some (PyData.int xs[i]) = some (.int (xs.getD i 0))
  rw [List.getD_eq_getElem?_getD, List.getElem?_eq_getElem h]
  rfl
theorem bs_at {bases : List Ev.Blk} {i : Nat} (h : i < bases.length) {z : Int} (e : z = (i : Int)) : atI (bases.map dL) z = some (dL (bases.getD i [])) := by
  refine at_any e ?_
  rw [List.getElem?_map, List.getElem?_eq_getElem h]
  show some (dL bases[i]) = some (dL (bases.getD i []))
  rw [List.getD_eq_getElem?_getD, List.getElem?_eq_getElem h]
  rfl
theorem getD_mem {α : Type} {l : List α} {i : Nat} (h : i < l.length) (d : α) : l.getD i d ∈ l := by
  rw [List.getD_eq_getElem?_getD, List.getElem?_eq_getElem h]
  exact List.getElem_mem h
/-- what is told is small -/
theorem told_small {n : Nat} {bases : List Ev.Blk} (g : Good n bases) : (Ev.toldOf n (Ev.dev n bases)).length ≤ 100 ∧ ∀ e ∈ Ev.toldOf n (Ev.dev n bases), e.1.length < 64 ∧ 0 ≤ e.2 ∧ e.2 ≤ 100 := by
  have hT := Ev.toldOf_told g.n0 g.trn
  have hd := dev_few g
  refine ⟨?_, fun e he => ?_⟩
  · have h1 : ((Ev.toldOf n (Ev.dev n bases)).map (·.1)).length ≤ ((Ev.dev n bases).map (Ev.lst n)).length := List.Nodup.length_le_of_subset hT.nd fun x hx => by
      obtain ⟨e, he, rfl⟩ := List.mem_map.mp hx
      obtain ⟨b, hb, e1, _⟩ := (hT.mem e.1 e.2).mp he
      exact List.mem_map.mpr ⟨b, hb, e1.symm⟩
    rw [List.length_map, List.length_map] at h1
    omega
  · obtain ⟨b, hb, e1, e2⟩ := (hT.mem e.1 e.2).mp he
    have hc := List.count_le_length (a := b) (l := Ev.dev n bases)
    refine ⟨?_, by omega, by omega⟩
    obtain ⟨k, hk⟩ := (Ev.mem_orb g.n0).mp (Ev.lst_is g.n0 b).mem
    have hl := bas_len (Ev.tn_can g.n0 (g.trn.can b hb).bas k).bas
    have := g.n13
    rw [e1, hk]
    omega
theorem again_is {n : Nat} {bases : List Ev.Blk} (g : Good n bases) : Ev.srtB (Ev.again n (Ev.toldOf n (Ev.dev n bases))) = Ev.srtB (Ev.dev n bases) :=
  Ev.srtB_congr (Ev.again_perm g.n0 g.trn (Ev.toldOf_told g.n0 g.trn))
/-- each base turned, and backwards -/
def othersOf (n : Nat) (bases : List Ev.Blk) (kk : Nat → Int) : List Ev.Blk := (List.range bases.length).map fun k => (mv n (kk k) 1 (bases.getD k [])).reverse
theorem others_mvd (n : Nat) : ∀ (bases : List Ev.Blk) (kk : Nat → Int), Ev.Mvd n bases (othersOf n bases kk)
  | [], _ => .nil
  | b :: bases, kk => by
    have ih := others_mvd n bases fun k => kk (k + 1)
    have e : othersOf n (b :: bases) kk = ((b.map fun p => (1 * p + kk 0) % (n : Int)).reverse :: othersOf n bases fun k => kk (k + 1)) := by
      unfold othersOf
      rw [List.length_cons, List.range_succ_eq_map]
      rw [List.map_cons, List.map_map]
      rfl
    rw [e]
    exact .cons (kk 0) ih
theorem others_good {n : Nat} {bases : List Ev.Blk} (g : Good n bases) (kk : Nat → Int) : Good n (othersOf n bases kk) :=
  ⟨g.n0, g.n13, by unfold othersOf; rw [List.length_map, List.length_range]; exact g.few, (others_mvd n bases kk).bas g.n0 g.bas⟩
theorem rev_good {n : Nat} {bases : List Ev.Blk} (g : Good n bases) : Good n bases.reverse :=
  ⟨g.n0, g.n13, by rw [List.length_reverse]; exact g.few, fun b hb => g.bas b (List.mem_reverse.mp hb)⟩
theorem rev_dl (n : Nat) (bases : List Ev.Blk) : (Ev.DL n bases.reverse).Perm (Ev.DL n bases) := by
  unfold Ev.DL
  exact List.Perm.flatMap_right _ (List.reverse_perm _)
theorem rev_dev (n : Nat) (bases : List Ev.Blk) : (Ev.dev n bases.reverse).Perm (Ev.dev n bases) := by
  unfold Ev.dev
  exact List.Perm.flatMap_right _ (List.reverse_perm _)
theorem prd_good {n : Nat} {bases : List Ev.Blk} (g : Good n bases) {m : Int} (hm : Nat.gcd m.toNat n = 1) (h0 : 0 ≤ m) : Good n (bases.map (Ev.prd n m)) :=
  ⟨g.n0, g.n13, by rw [List.length_map]; exact g.few, fun b hb => by
    obtain ⟨c, hc, rfl⟩ := List.mem_map.mp hb
    exact Ev.prd_bas g.n0 hm h0 (g.bas c hc)⟩
theorem row_bas {n : Nat} (hn : 0 < n) {m : Int} (hm : Nat.gcd m.toNat n = 1) (h0 : 0 ≤ m) : Ev.Bas n ((List.range n).map fun i : Nat => (m * (i : Int)) % (n : Int)) := by
  have h := Ev.bas_map hn (rng_bas n) (g := fun p => m * p) fun i j h1 h2 h3 h4 e => Ev.mul_inj hm h0 h1 h2 h3 h4 e
  rw [List.map_map] at h
  exact h
/-- the numbers that share no divisor -/
def somes (n : Nat) : List Int := ((List.range n).filter fun i : Nat => decide (((Nat.gcd (1 + i) n : Nat) : Int) = 1)).map fun i : Nat => 1 + (i : Int)
theorem somes_pos {n : Nat} (hn : 0 < n) : 0 < (somes n).length := by
  unfold somes
  rw [List.length_map]
  refine List.length_pos_of_mem (a := 0) (List.mem_filter.mpr ⟨List.mem_range.mpr hn, ?_⟩)
  simp
theorem somes_mem {n : Nat} {m : Int} (h : m ∈ somes n) : Nat.gcd m.toNat n = 1 ∧ 0 < m ∧ m ≤ n := by
  obtain ⟨i, z, rfl⟩ := List.mem_map.mp h
  obtain ⟨h1, h2⟩ := List.mem_filter.mp z
  rw [List.mem_range] at h1
  have h3 : ((Nat.gcd (1 + i) n : Nat) : Int) = 1 := of_decide_eq_true h2
  refine ⟨?_, by omega, by omega⟩
  rw [show (1 + (i : Int)).toNat = 1 + i by omega]
  omega
theorem there_at {n : Nat} {bases : List Ev.Blk} (g : Good n bases) {m : Int} (hm : Nat.gcd m.toNat n = 1) (h0 : 0 ≤ m) {d : Int} (hd : 0 < d) (hd' : d < n) :
    atI ((Ev.diffs n (bases.map (Ev.prd n m))).map PyData.int) ((m * d) % (n : Int) - 1) = some (.int (((Ev.DL n bases).count d : Nat) : Int)) := by
  have h1 := Ev.mul_pos_mod g.n0 hm h0 hd hd'
  refine at_any (j := ((m * d) % (n : Int) - 1).toNat) (by omega) ?_
  rw [List.getElem?_map, Ev.diffs_get (by omega), show ((((m * d) % (n : Int) - 1).toNat + 1 : Nat) : Int) = (m * d) % (n : Int) by omega, Ev.DL_prd_count g.n0 hm h0 bases (by omega) hd']
  rfl
theorem counts_at {n : Nat} {bases : List Ev.Blk} {d : Int} (hd : 0 < d) (hd' : d < n) : atI ((Ev.diffs n bases).map PyData.int) (d - 1) = some (.int (((Ev.DL n bases).count d : Nat) : Int)) := by
  refine at_any (j := (d - 1).toNat) (by omega) ?_
  rw [List.getElem?_map, Ev.diffs_get (by omega), show (((d - 1).toNat + 1 : Nat) : Int) = d by omega]
  rfl
end EvW
-- part EvLaw2
namespace EvW
open PySem L2
abbrev NLw : List Str := ["_law_script", "_law_xs", "_law_n", "_law_bases", "_law_layout", "_law_told", "_law_counts", "_law_others", "_law_m", "_law_some", "_law_products", "_law_there", "_law_row", "_law_k", "_law_base_here", "_law_d", "_law_point"]
theorem scLw : FnScope NLw ["_law_script"] (defScope sLaw) := ⟨rfl, rfl, rfl, by decide +kernel, rfl, by decide +kernel, by decide +kernel⟩
def spLaw (K : PySem.W.Frag) : Sp := fun vs H Q _ => ∃ (a : Addr) (ns : List Int), vs = [.ref a] ∧ SqL K H a (ns.map V.int) ∧ ns.length ≤ 63 ∧ ∀ H', Q (.bl true) H'
section
variable {P : Program} {w : World} {K : PySem.W.Frag} {mg : Str → Option Value} {base : Heap}
theorem ok_law {f : Addr} {fd : FuncData} (F : Fun K "law" "law" sLaw f fd) (T : Txt mg)
    {a1 a2 a3 a4 a5 a6 a7 a8 a9 b1 b2 b3 b4 : Addr} {d1 d2 d3 d4 d5 d6 d7 d8 d9 e1 e2 e3 e4 : FuncData}
    (C1 : Cal P w K mg base 1 "_law_cell" ["_law_script", "_law_k"] (spCell K) a1 d1)
    (C2 : Cal P w K mg base 1 "_law_numbers" ["_law_cell_here", "_law_many"] spNums a2 d2)
    (C3 : Cal P w K mg base 1 "_law_base" ["_law_n", "_law_x"] (spD pBase) a3 d3)
    (C4 : Cal P w K mg base 5 "developed" ["n", "bases"] (spD pDev) a4 d4)
    (C5 : Cal P w K mg base 2 "turns_told" ["layout"] (spD pTurns) a5 d5)
    (C6 : Cal P w K mg base 2 "_law_developed_again" ["_law_n", "_law_told"] (spD pAgain) a6 d6)
    (C7 : Cal P w K mg base 5 "differences" ["n", "bases"] (spD pDiffs) a7 d7)
    (C8 : Cal P w K mg base 1 "_law_pairs_right" ["_law_n", "_law_blocks", "_law_counts"] (spD pPairs) a8 d8)
    (C9 : Cal P w K mg base 1 "_law_moved" ["_law_base_here", "_law_n", "_law_by", "_law_times"] (spD pMoved) a9 d9)
    (D1 : Cal P w K mg base 6 "_law_alike" ["_law_n", "_law_bases", "_law_other"] (spD pAlike) b1 e1)
    (D2 : Cal P w K mg base 1 "_law_gcd" ["_law_one", "_law_other"] (spD pGcd) b2 e2)
    (D3 : Cal P w K mg base 1 "sorted_layout" ["layout"] (spD pSortedL) b3 e3)
    (D4 : Cal P w K mg base 5 "renamed" ["layout", "row"] (spD pRenamed) b4 e4) : FnOk P w K mg base CX0 7 f fd ["_law_script"] (spLaw K) := by
  refine F.ok scLw (fun vs H Q E h => ?_) (fun cdv A outer s H vs Q E hr h => ?_)
  · obtain ⟨a, ns, rfl, _⟩ := h
    rfl
  · obtain ⟨a, ns, rfl, hS, hlen, q⟩ := h
    have r1 := hr.mono (show 1 ≤ 6 by decide)
    have r2 := hr.mono (show 2 ≤ 6 by decide)
    have r5 := hr.mono (show 5 ≤ 6 by decide)
    refine' ⟨_, ?ww, ?rr⟩
    case ww =>
      refine' pss_cons (ps_set (i := 1) scLw.nd rfl (Or.inr rfl) (pe_cal C2 r1 (by rfl) (pa_cons (pe_cal C1 r1 (by rfl) (pa_cons (pv 0) (pa_cons pe_int pa_nil))) (pa_cons pe_int pa_nil)))) ?_
      rotate_left
      refine' pss_cons (ps_set (i := 2) scLw.nd rfl (Or.inr rfl) (pe_op op_add pe_int (pe_op op_mod (pe_ix ix_list (pv 1) pe_int (fun _ _ => rfl)) pe_int))) ?_
      rotate_left
      refine' pss_cons (ps_set (i := 3) scLw.nd rfl (Or.inr rfl) (pe_lc (own := [("_law_k", 13)]) (g := gName 13) (tt := tYes) rfl scLw.nd (pi_range1 (by rfl) T.range (pa_cons (pe_op op_add pe_int (pe_op op_mod (pe_ix ix_list (pv 1) pe_int (fun _ _ => rfl)) pe_int)) pa_nil)) (blkOk_by (N := NLw) (sc := defScope sLaw) (by decide +kernel))
          (fun _ _ _ _ _ => pg_name (i := 13) scLw.nd rfl (Or.inl rfl)) (fun _ _ _ _ _ => pts_nil) (fun _ _ _ _ _ => pe_cal C3 r1 (by rfl) (pa_cons (pv 2) (pa_cons (pe_ix (ix_listK rfl) (pv 1) (pe_op op_add pe_int (pv 13)) (fun _ _ => rfl)) pa_nil))))) ?_
      rotate_left
      refine' pss_cons (ps_set (i := 4) scLw.nd rfl (Or.inl rfl) (pe_cal C4 r5 (by rfl) (pa_cons (pv 2) (pa_cons (pv 3) pa_nil)))) ?_
      rotate_left
      refine' pss_cons (ps_set (i := 5) scLw.nd rfl (Or.inl rfl) (pe_cal C5 r2 (by rfl) (pa_cons (pv 4) pa_nil))) ?_
      rotate_left
      refine' pss_cons (ps_if (PW.pt (pw_or (pt_cmpR op_ne (pe_ix ix_tup (pv 5) pe_int (fun _ _ => rfl)) pe_str (nomark _))
          (pw_or1 (pt_cmpR (op_neD (hu64 hr)) (pe_cal C6 r2 (by rfl) (pa_cons (pv 2) (pa_cons (pe_ix ix_tup (pv 5) pe_int (fun _ _ => rfl)) pa_nil))) (pe_callB (cr_sortB (hu64 hr)) (by rfl) T.sorted b_sorted (pa_cons (pe_ix ix_tup (pv 4) pe_int (fun _ _ => rfl)) pa_nil)) (nomark _))))) pss_never pss_nil) ?_
      rotate_left
      refine' pss_cons (ps_set (i := 6) scLw.nd rfl (Or.inr rfl) (pe_cal C7 r5 (by rfl) (pa_cons (pv 2) (pa_cons (pv 3) pa_nil)))) ?_
      rotate_left
      refine' pss_cons (ps_if (pt_cmpR op_ne (pe_callB call_len_seq (by rfl) T.len b_len (pa_cons (pv 6) pa_nil)) (pe_op op_sub (pv 2) pe_int) (nomark _)) pss_never pss_nil) ?_
      rotate_left
      refine' pss_cons (ps_if (pt_cmpR op_ne (pe_callB (cr_sum rfl) (by rfl) T.sum b_sum (pa_cons (pv 6) pa_nil)) (pe_callB (cr_sum rfl) (by rfl) T.sum b_sum (pa_cons
          (pe_lc (own := [("_law_base_here", 14)]) (g := gName 14) (tt := tYes) rfl scLw.nd (pi_list (pv 3)) (blkOk_by (N := NLw) (sc := defScope sLaw) (by decide +kernel))
            (fun _ _ _ _ _ => pg_name (i := 14) scLw.nd rfl (Or.inl rfl)) (fun _ _ _ _ _ => pts_nil) (fun _ _ _ _ _ => pe_op op_mul (pe_callB (call_lenK rfl) (by rfl) T.len b_len (pa_cons (pv 14) pa_nil)) (pe_op op_sub (pe_callB (call_lenK rfl) (by rfl) T.len b_len (pa_cons (pv 14) pa_nil)) pe_int))) pa_nil)) (nomark _)) pss_never pss_nil) ?_
      rotate_left
      refine' pss_cons (ps_if (pt_not (pt_val (pe_cal C8 r1 (by rfl) (pa_cons (pv 2) (pa_cons (pe_ix ix_tup (pv 4) pe_int (fun _ _ => rfl)) (pa_cons (pv 6) pa_nil)))))) pss_never pss_nil) ?_
      rotate_left
      refine' pss_cons (ps_setLc (i := 7) (own := [("_law_k", 13)]) (g := gName 13) (tt := tYes) rfl scLw.nd rfl rfl (by rfl) (pi_range1 (by rfl) T.range (pa_cons (pe_callB call_len_seq (by rfl) T.len b_len (pa_cons (pv 3) pa_nil)) pa_nil)) (blkOk_by (N := NLw) (sc := defScope sLaw) (by decide +kernel))
          (fun _ _ _ _ _ => pg_name (i := 13) scLw.nd rfl (Or.inl rfl)) (fun _ _ _ _ _ => pts_nil) (fun _ _ _ _ _ => pe_revK rfl (pe_cal C9 r1 (by rfl) (pa_cons (pe_ix (ix_listK rfl) (pv 3) (pv 13) (fun _ _ => rfl)) (pa_cons (pv 2) (pa_cons (pe_op op_fdiv (pe_ix (ix_listK rfl) (pv 1) (pe_op op_add pe_int (pe_op op_mod (pv 13) pe_int)) (fun _ _ => rfl)) (pe_op op_add pe_int (pv 13))) (pa_cons pe_int pa_nil))))))) ?_
      rotate_left
      refine' pss_cons (ps_if (PW.pt (pw_or (pt_not (pt_val (pe_cal D1 hr (by rfl) (pa_cons (pv 2) (pa_cons (pv 3) (pa_cons (pv 7) pa_nil)))))) (pw_or1 (pt_not (pt_val (pe_cal D1 hr (by rfl) (pa_cons (pv 2) (pa_cons (pv 3) (pa_cons (pe_revL (pv 3)) pa_nil))))))))) pss_never pss_nil) ?_
      rotate_left
      refine' pss_cons (ps_setLc (i := 9) (own := [("_law_m", 8)]) (g := gName 8) rfl scLw.nd rfl rfl (by rfl) (pi_range2 (by rfl) T.range (pa_cons pe_int (pa_cons (pe_op op_add (pv 2) pe_int) pa_nil))) (blkOk_by (N := NLw) (sc := defScope sLaw) (by decide +kernel))
          (fun _ _ _ _ _ => pg_name (i := 8) scLw.nd rfl (Or.inl rfl)) (fun _ _ _ _ _ => pts_one (pt_cmpR op_eq (pe_cal D2 r1 (by rfl) (pa_cons (pv 8) (pa_cons (pv 2) pa_nil))) pe_int (nomark _))) (fun _ _ _ _ _ => pv 8)) ?_
      rotate_left
      refine' pss_cons (ps_set (i := 8) scLw.nd rfl (Or.inr rfl) (pe_ix ix_list (pv 9) (pe_op op_mod (pe_ix ix_list (pv 1) pe_int (fun _ _ => rfl)) (pe_callB call_len_seq (by rfl) T.len b_len (pa_cons (pv 9) pa_nil))) (fun _ _ => rfl))) ?_
      rotate_left
      refine' pss_cons (ps_setLc (i := 10) (own := [("_law_base_here", 14)]) (g := gName 14) (tt := tYes) rfl scLw.nd rfl rfl (by rfl) (pi_list (pv 3)) (blkOk_by (N := NLw) (sc := defScope sLaw) (by decide +kernel))
          (fun _ _ _ _ _ => pg_name (i := 14) scLw.nd rfl (Or.inl rfl)) (fun _ _ _ _ _ => pts_nil) (fun _ _ _ _ _ => pe_cal C9 r1 (by rfl) (pa_cons (pv 14) (pa_cons (pv 2) (pa_cons pe_int (pa_cons (pv 8) pa_nil)))))) ?_
      rotate_left
      refine' pss_cons (ps_set (i := 11) scLw.nd rfl (Or.inr rfl) (pe_cal C7 r5 (by rfl) (pa_cons (pv 2) (pa_cons (pv 10) pa_nil)))) ?_
      rotate_left
      refine' pss_cons (ps_if (pt_not (pt_val (pe_callB (cr_all rfl) (by rfl) T.all b_all (pa_cons
          (pe_lc (own := [("_law_d", 15)]) (g := gName 15) (tt := tYes) rfl scLw.nd (pi_range2 (by rfl) T.range (pa_cons pe_int (pa_cons (pv 2) pa_nil))) (blkOk_by (N := NLw) (sc := defScope sLaw) (by decide +kernel))
            (fun _ _ _ _ _ => pg_name (i := 15) scLw.nd rfl (Or.inl rfl)) (fun _ _ _ _ _ => pts_nil) (fun _ _ _ _ _ => pe_cmpR op_eq (pe_ix (ix_listK rfl) (pv 11) (pe_op op_sub (pe_op op_mod (pe_op op_mul (pv 8) (pv 15)) (pv 2)) pe_int) (fun _ _ => rfl)) (pe_ix (ix_listK rfl) (pv 6) (pe_op op_sub (pv 15) pe_int) (fun _ _ => rfl)) (nomark _))) pa_nil)))) pss_never pss_nil) ?_
      rotate_left
      refine' pss_cons (ps_setLc (i := 12) (own := [("_law_point", 16)]) (g := gName 16) (tt := tYes) rfl scLw.nd rfl rfl (by rfl) (pi_range1 (by rfl) T.range (pa_cons (pv 2) pa_nil)) (blkOk_by (N := NLw) (sc := defScope sLaw) (by decide +kernel))
          (fun _ _ _ _ _ => pg_name (i := 16) scLw.nd rfl (Or.inl rfl)) (fun _ _ _ _ _ => pts_nil) (fun _ _ _ _ _ => pe_op op_mod (pe_op op_mul (pv 8) (pv 16)) (pv 2))) ?_
      rotate_left
      refine pss_one (ps_ret (pe_cmpR (op_eqD (hu64 hr)) (pe_cal D3 r1 (by rfl) (pa_cons (pe_cal C4 r5 (by rfl) (pa_cons (pv 2) (pa_cons (pv 10) pa_nil))) pa_nil)) (pe_cal D3 r1 (by rfl) (pa_cons (pe_cal D4 r5 (by rfl) (pa_cons (pv 4) (pa_cons (pv 12) pa_nil))) pa_nil)) (nomark _)))
    -- the numbers
    refine ⟨.ref a, rfl, a, ns, rfl, hS, fun c H1 z1 => ?_⟩
    refine ⟨F0, c, 10, fok_F0, rfl, by decide, fun xs v H2 hxl hxb z2 rx => ?_⟩
    have E0 : Env (hide F0 H2) (L2.start NLw [V.ref a]) (List.replicate 17 none) := ⟨rfl, fun i d hi => by
      rw [List.getElem?_replicate] at hi
      split at hi <;> cases hi⟩
    have E1 := E0.set (i := 1) rx
    have xm : ∀ i : Nat, i < 10 → 0 ≤ xs.getD i 0 ∧ xs.getD i 0 < 2000000000 := fun i hi => hxb _ (getD_mem (by omega) 0)
    have xa : ∀ {i : Nat} {z : Int}, i < 10 → z = (i : Int) → atI (xs.map PyData.int) z = some (.int (xs.getD i 0)) := fun {i z} hi e => xs_at (by omega) e
    -- n
    obtain ⟨n, hn⟩ : ∃ n : Nat, 1 + xs.getD 0 0 % 13 = (n : Int) := ⟨(1 + xs.getD 0 0 % 13).toNat, by omega⟩
    have hn0 : 0 < n := by omega
    have hn13 : n ≤ 13 := by omega
    refine gs_asg (d := .int (n : Int)) (gv_is (gv_op gv_int (gv_op (gv_op (gv_var rfl) gv_int (g_ixL (xa (i := 0) (by decide) rfl))) gv_int (g_I (by decide))) g_I0) (by rw [hn])) fok_F0 E1 fun σ3 H3 e3 f3 E3 => ?_
    -- bases
    obtain ⟨m, hm⟩ : ∃ m : Nat, 1 + xs.getD 1 0 % 3 = (m : Int) := ⟨(1 + xs.getD 1 0 % 3).toNat, by omega⟩
    have hm3 : m ≤ 3 := by omega
    refine gs_asg (d := dBs ((List.range m).map fun k : Nat => bOf n (xs.getD (2 + k) 0))) (gv_is (gv_lcA (List.range m) (fun i : Nat => .int (i : Int)) (fun k : Nat => dL (bOf n (xs.getD (2 + k) 0)))
      (gi_r1 (ga_1 (gv_is (gv_op gv_int (gv_op (gv_op (gv_var rfl) gv_int (g_ixL (xa (i := 1) (by decide) rfl))) gv_int (g_I (by decide))) g_I0) (by rw [hm]))) (by omega)) (by rw [List.length_range]; omega)
      (fun k hk => by
        have hk' := List.mem_range.mp hk
        exact gv_call (Pre := pBase) (ga_2 (gv_var rfl) (gv_op (gv_var rfl) (gv_op gv_int (gv_var rfl) g_I0) (g_ixL (xa (i := 2 + k) (by omega) (by omega))))) ⟨n, _, rfl, hn13, (xm _ (by omega)).1, rfl⟩)) (by
        show PyData.list _ = .list (((List.range m).map fun k : Nat => bOf n (xs.getD (2 + k) 0)).map dL)
        rw [List.map_map]
        rfl)) f3 E3 fun σ4 H4 e4 f4 E4 => ?_
    have g : Good n ((List.range m).map fun k : Nat => bOf n (xs.getD (2 + k) 0)) := ⟨hn0, hn13, by rw [List.length_map, List.length_range]; exact hm3, fun b hb => by
      obtain ⟨k, _, rfl⟩ := List.mem_map.mp hb
      exact bOf_bas _ _⟩
    generalize ((List.range m).map fun k : Nat => bOf n (xs.getD (2 + k) 0)) = bases at g E4
    have few := g.few
    -- layout, told
    refine gs_asg (gv_call (Pre := pDev) (ga_2 (gv_var rfl) (gv_var rfl)) ⟨n, bases, rfl, g, rfl⟩) f4 E4 fun σ5 H5 e5 f5 E5 => ?_
    refine gs_asg (gv_call (Pre := pTurns) (ga_1 (gv_var rfl)) (turns_pre g)) f5 E5 fun σ6 H6 e6 f6 E6 => ?_
    refine gs_no (gt_is (gt_or (gt_test (gv_op (gv_op (gv_var rfl) gv_int (g_ixT (d := .str "turns") (atI_nat (j := 0) rfl))) gv_str g_neS)) fun _ => gt_test (gv_op (gv_call (Pre := pAgain) (ga_2 (gv_var rfl) (gv_op (gv_var rfl) gv_int (g_ixT (atI_nat (j := 1) rfl)))) ⟨n, _, rfl, g.n0, g.n13, (told_small g).1, (told_small g).2, rfl⟩)
      (gv_cb (ga_1 (gv_op (gv_var rfl) gv_int (g_ixT (atI_nat (j := 1) rfl)))) gc_sortBT) (g_neS2 (shp_list (shp_tups _)) (by rw [again_is g])))) (by simp)) f6 E6 fun H7 e7 f7 E7 => ?_
    -- counts
    refine gs_asg (gv_call (Pre := pDiffs) (ga_2 (gv_var rfl) (gv_var rfl)) ⟨n, bases, rfl, g, rfl⟩) f7 E7 fun σ8 H8 e8 f8 E8 => ?_
    refine gs_no (gt_is (gt_test (gv_op (gv_cb (ga_1 (gv_var rfl)) gc_lenL) (gv_op (gv_var rfl) gv_int g_I0) g_neI)) (by
      rw [List.length_map, Ev.diffs_len, decide_eq_true (by omega)]
      rfl)) f8 E8 fun H9 e9 f9 E9 => ?_
    refine gs_no (gt_is (gt_test (gv_op (gv_cb (ga_1 (gv_var rfl)) gc_sum) (gv_cb (ga_1 (gv_is (gv_lcA bases dL (fun b => .int ((b.length : Int) * ((b.length : Int) - 1))) (gi_list (gv_var rfl)) (by omega)
      (fun b hb => gv_is (gv_op (gv_cb (ga_1 (gv_var rfl)) gc_lenL) (gv_op (gv_cb (ga_1 (gv_var rfl)) gc_lenL) gv_int g_I0) (g_I (C := CMul) (.inl (by
        have := g.len hb
        rw [List.length_map]
        exact ⟨by omega, by omega⟩)))) (by rw [List.length_map]))) (map_int _ _))) gc_sum) g_neI)) (by
      rw [Ev.diffs_sum g.n0 g.bas, decide_eq_true rfl]
      rfl)) f9 E9 fun H10 e10 f10 E10 => ?_
    refine gs_no (gt_is (gt_not (gt_B (gv_call (Pre := pPairs) (ga_3 (gv_var rfl) (gv_op (gv_var rfl) gv_int (g_ixT (atI_nat (j := 1) rfl))) (gv_var rfl)) ⟨n, bases, rfl, g, rfl⟩))) rfl) f10 E10 fun H11 e11 f11 E11 => ?_
    -- others
    refine gs_asg (d := dBs (othersOf n bases fun k => xs.getD (5 + k % 2) 0 / (1 + (k : Int)))) (gv_is (gv_lcA (List.range bases.length) (fun i : Nat => .int (i : Int)) (fun k : Nat => dL (mv n (xs.getD (5 + k % 2) 0 / (1 + (k : Int))) 1 (bases.getD k [])).reverse)
      (gi_r1 (ga_1 (gv_is (gv_cb (ga_1 (gv_var rfl)) gc_lenL) (by rw [List.length_map]))) (by omega)) (by rw [List.length_range]; omega)
      (fun k hk => by
        have hk' := List.mem_range.mp hk
        exact gv_is (gv_rev (gv_call (Pre := pMoved) (ga_cons (gv_op (gv_var rfl) (gv_var rfl) (g_ixL (bs_at hk' rfl))) (ga_3 (gv_var rfl) (gv_op (gv_op (gv_var rfl) (gv_op gv_int (gv_op (gv_var rfl) gv_int (g_I (by decide))) g_I0) (g_ixL (xa (i := 5 + k % 2) (by omega) (by omega)))) (gv_op gv_int (gv_var rfl) g_I0) (g_I (C := CDiv) ⟨by omega, by omega⟩)) gv_int))
          ⟨bases.getD k [], n, _, 1, .inl rfl, g.n0, by have := g.len (getD_mem hk' []); omega, by decide, by decide, rfl⟩)) (by rw [← List.map_reverse]))) (by
        show PyData.list _ = .list ((othersOf n bases fun k => xs.getD (5 + k % 2) 0 / (1 + (k : Int))).map dL)
        unfold othersOf
        rw [List.map_map]
        rfl)) f11 E11 fun σ12 H12 e12 f12 E12 => ?_
    have mvd := others_mvd n bases fun k => xs.getD (5 + k % 2) 0 / (1 + (k : Int))
    have gO := others_good g fun k => xs.getD (5 + k % 2) 0 / (1 + (k : Int))
    generalize (othersOf n bases fun k => xs.getD (5 + k % 2) 0 / (1 + (k : Int))) = others at mvd gO E12
    refine gs_no (gt_is (gt_or (gt_not (gt_B (gv_call (Pre := pAlike) (ga_3 (gv_var rfl) (gv_var rfl) (gv_var rfl)) ⟨n, bases, others, rfl, g, gO, mvd.dl, mvd.dev g.n0, rfl⟩))) fun _ => gt_not (gt_B (gv_call (Pre := pAlike) (ga_3 (gv_var rfl) (gv_var rfl) (gv_is (gv_rev (gv_var rfl)) (by rw [← List.map_reverse])))
      ⟨n, bases, bases.reverse, rfl, g, rev_good g, rev_dl n bases, rev_dev n bases, rfl⟩))) rfl) f12 E12 fun H13 e13 f13 E13 => ?_
    -- some
    refine gs_asg (d := dL (somes n)) (gv_is (gv_lc (List.range ((n : Int) + 1 - 1).toNat) (fun i : Nat => .int (1 + (i : Int))) (fun i : Nat => decide (((Nat.gcd (1 + i) n : Nat) : Int) = 1)) (fun i : Nat => .int (1 + (i : Int)))
      (gi_r2 (ga_2 gv_int (gv_op (gv_var rfl) gv_int g_I0)) ⟨by decide, by decide⟩ ⟨by omega, by omega⟩) (by rw [List.length_range]; omega)
      (fun i _ => gt_test (gv_op (gv_call (Pre := pGcd) (ga_2 (gv_var rfl) (gv_var rfl)) ⟨1 + i, n, by push_cast; rfl, rfl⟩) gv_int g_eqI)) (fun i _ _ => gv_var rfl)) (by
        rw [show ((n : Int) + 1 - 1).toNat = n by omega]
        exact map_int _ _)) f13 E13 fun σ14 H14 e14 f14 E14 => ?_
    have sp := somes_pos hn0
    have hj0 : 0 ≤ xs.getD 7 0 % ((somes n).length : Int) := Int.emod_nonneg _ (by omega)
    have hj1 : xs.getD 7 0 % ((somes n).length : Int) < ((somes n).length : Int) := Int.emod_lt_of_pos _ (by omega)
    refine gs_asg (d := .int ((somes n).getD (xs.getD 7 0 % ((somes n).length : Int)).toNat 0)) (gv_op (gv_var rfl) (gv_op (gv_op (gv_var rfl) gv_int (g_ixL (xa (i := 7) (by decide) rfl))) (gv_is (gv_cb (ga_1 (gv_var rfl)) gc_lenL) (by rw [List.length_map])) (g_I (by omega))) (g_ixL (xs_at (by omega) (by omega)))) f14 E14 fun σ15 H15 e15 f15 E15 => ?_
    have hmm := somes_mem (getD_mem (l := somes n) (i := (xs.getD 7 0 % ((somes n).length : Int)).toNat) (by omega) 0)
    generalize (somes n).getD (xs.getD 7 0 % ((somes n).length : Int)).toNat 0 = mm at hmm E15
    obtain ⟨hgc, hmp, hmn⟩ := hmm
    have gP := prd_good g hgc (by omega)
    -- products
    refine gs_asg (d := dBs (bases.map (Ev.prd n mm))) (gv_is (gv_lcA bases dL (fun b => dL (Ev.prd n mm b)) (gi_list (gv_var rfl)) (by omega)
      (fun b hb => gv_call (Pre := pMoved) (ga_cons (gv_var rfl) (ga_3 (gv_var rfl) gv_int (gv_var rfl))) ⟨b, n, 0, mm, .inl rfl, g.n0, by have := g.len hb; omega, by omega, by omega, rfl⟩)) (by
        show PyData.list _ = .list ((bases.map (Ev.prd n mm)).map dL)
        rw [List.map_map]
        rfl)) f15 E15 fun σ16 H16 e16 f16 E16 => ?_
    refine gs_asg (gv_call (Pre := pDiffs) (ga_2 (gv_var rfl) (gv_var rfl)) ⟨n, _, rfl, gP, rfl⟩) f16 E16 fun σ17 H17 e17 f17 E17 => ?_
    refine gs_no (gt_is (gt_not (gt_B (gv_cb (ga_1 (gv_is (gv_lcA (List.range ((n : Int) - 1).toNat) (fun i : Nat => .int (1 + (i : Int))) (fun _ => .bool true) (gi_r2 (ga_2 gv_int (gv_var rfl)) ⟨by decide, by decide⟩ ⟨by omega, by omega⟩) (by rw [List.length_range]; omega)
      (fun i hi => by
        have lt := List.mem_range.mp hi
        exact gv_is (gv_op (gv_op (gv_var rfl) (gv_op (gv_op (gv_op (gv_var rfl) (gv_var rfl) (g_I (C := CMul) (.inl ⟨by omega, by omega⟩))) (gv_var rfl) (g_I (by omega))) gv_int g_I0) (g_ixL (there_at g hgc (by omega) (d := 1 + (i : Int)) (by omega) (by omega)))) (gv_op (gv_var rfl) (gv_op (gv_var rfl) gv_int g_I0) (g_ixL (counts_at (by omega) (by omega)))) g_eqI) (by rw [decide_eq_true rfl]))) (map_bool _ _))) gc_all))) (by simp)) f17 E17 fun H18 e18 f18 E18 => ?_
    -- row
    refine gs_asg (d := dL ((List.range n).map fun i : Nat => (mm * (i : Int)) % (n : Int))) (gv_is (gv_lcA (List.range n) (fun i : Nat => .int (i : Int)) (fun i : Nat => .int ((mm * (i : Int)) % (n : Int))) (gi_r1 (ga_1 (gv_var rfl)) (by omega)) (by rw [List.length_range]; omega)
      (fun i hi => gv_op (gv_op (gv_var rfl) (gv_var rfl) (g_I (C := CMul) (.inl ⟨by omega, by omega⟩))) (gv_var rfl) (g_I (C := fun _ j => 0 < j) (by omega)))) (map_int _ _)) f18 E18 fun σ19 H19 e19 f19 E19 => ?_
    have dl := dev_few g
    refine gs_ret (gv_op (gv_call (Pre := pSortedL) (ga_1 (gv_call (Pre := pDev) (ga_2 (gv_var rfl) (gv_var rfl)) ⟨n, _, rfl, gP, rfl⟩)) ⟨n, _, rfl, rfl⟩) (gv_call (Pre := pSortedL) (ga_1 (gv_call (Pre := pRenamed) (ga_2 (gv_var rfl) (gv_var rfl)) ⟨n, Ev.dev n bases, fun p => (mm * p) % (n : Int), rfl, by omega, by omega, g.trn.can, row_bas hn0 hgc (by omega), rfl⟩)) ⟨n, _, rfl, rfl⟩)
      (g_eqS2 (shp_lay _ _) (by
        rw [show Ev.srtB ((Ev.dev n bases).map fun b => Ev.srt (b.map fun p => (mm * p) % (n : Int))) = Ev.srtB (Ev.dev n (bases.map (Ev.prd n mm))) from Ev.srtB_congr (Ev.ren_dev hn0 hgc (by omega) bases)]))) f19 E19 fun v H' e' r' => ?_
    rw [rp_bool.mp r']
    exact q H'
end
end EvW
-- part EvAll
namespace EvW
open PySem L2
/-! ### what the top has written; the law's own head -/
theorem all_mk {l : PySem.W.OpenLaw} {w : World} {K : PySem.W.Frag} {h : Heap} {mg : Str → Option Value} {fa f1 f2 f3 f4 f5 f6 f7 f8 f9 f10 f11 f12 f13 f14 f15 f16 f17 f18 f19 f20 f21 f22 : Addr} (X : K.In h) (G : h.Ns mainGlobals mg) (hfa : mg "law" = some (.ref fa))
    {od1 an1 od2 an2 od3 an3 od4 an4 od5 an5 od6 an6 od7 an7 od8 an8 od9 an9 od10 an10 od11 an11 od12 an12 od13 an13 od14 an14 od15 an15 od16 an16 od17 an17 od18 an18 od19 an19 od20 an20 od21 an21 od22 an22 : Option Addr} {sl1 sl2 sl3 sl4 sl5 sl6 sl7 sl8 sl9 sl10 sl11 sl12 sl13 sl14 sl15 sl16 sl17 sl18 sl19 sl20 sl21 sl22 : Array (Option Value)} {oc1 kV1 dc1 pm1 cd1 ct1 oc2 kV2 dc2 pm2 cd2 ct2 oc3 kV3 dc3 pm3 cd3 ct3 oc4 kV4 dc4 pm4 cd4 ct4 oc5 kV5 dc5 pm5 cd5 ct5 oc6 kV6 dc6 pm6 cd6 ct6 oc7 kV7 dc7 pm7 cd7 ct7 oc8 kV8 dc8 pm8 cd8 ct8 oc9 kV9 dc9 pm9 cd9 ct9 oc10 kV10 dc10 pm10 cd10 ct10 oc11 kV11 dc11 pm11 cd11 ct11 oc12 kV12 dc12 pm12 cd12 ct12 oc13 kV13 dc13 pm13 cd13 ct13 oc14 kV14 dc14 pm14 cd14 ct14 oc15 kV15 dc15 pm15 cd15 ct15 oc16 kV16 dc16 pm16 cd16 ct16 oc17 kV17 dc17 pm17 cd17 ct17 oc18 kV18 dc18 pm18 cd18 ct18 oc19 kV19 dc19 pm19 cd19 ct19 oc20 kV20 dc20 pm20 cd20 ct20 oc21 kV21 dc21 pm21 cd21 ct21 oc22 kV22 dc22 pm22 cd22 ct22 : Value} {tp tb : Tok}
    (a1 : PySem.W.nsIn K mainGlobals "is_whole_layouts" = some (some (.ref f1))) (l1 : K.lookup f1 = some ⟨oc1, od1, .func (PySem.W.fnOf "is_whole" "is_whole" (defArgs sWholeL) (defBody sWholeL) (defScope sWholeL) .none kV1 dc1 pm1 an1 cd1 ct1), sl1⟩) (c1 : PySem.W.codeIn K cd1 "is_whole" = true) (k1 : PySem.W.keepIn K (.ref f1) = true)
    (a2 : PySem.W.nsIn K mainGlobals "is_point" = some (some (.ref f2))) (l2 : K.lookup f2 = some ⟨oc2, od2, .func (PySem.W.fnOf "is_point" "is_point" (defArgs sPoint) (defBody sPoint) (defScope sPoint) .none kV2 dc2 pm2 an2 cd2 ct2), sl2⟩) (c2 : PySem.W.codeIn K cd2 "is_point" = true) (k2 : PySem.W.keepIn K (.ref f2) = true)
    (a3 : PySem.W.nsIn K mainGlobals "is_block" = some (some (.ref f3))) (l3 : K.lookup f3 = some ⟨oc3, od3, .func (PySem.W.fnOf "is_block" "is_block" (defArgs sBlock) (defBody sBlock) (defScope sBlock) .none kV3 dc3 pm3 an3 cd3 ct3), sl3⟩) (c3 : PySem.W.codeIn K cd3 "is_block" = true) (k3 : PySem.W.keepIn K (.ref f3) = true)
    (a4 : PySem.W.nsIn K mainGlobals "sorted_layout" = some (some (.ref f4))) (l4 : K.lookup f4 = some ⟨oc4, od4, .func (PySem.W.fnOf "sorted_layout" "sorted_layout" (defArgs sSortedL) (defBody sSortedL) (defScope sSortedL) .none kV4 dc4 pm4 an4 cd4 ct4), sl4⟩) (c4 : PySem.W.codeIn K cd4 "sorted_layout" = true) (k4 : PySem.W.keepIn K (.ref f4) = true)
    (a5 : PySem.W.nsIn K mainGlobals "is_row" = some (some (.ref f5))) (l5 : K.lookup f5 = some ⟨oc5, od5, .func (PySem.W.fnOf "is_row" "is_row" (defArgs sRow) (defBody sRow) (defScope sRow) .none kV5 dc5 pm5 an5 cd5 ct5), sl5⟩) (c5 : PySem.W.codeIn K cd5 "is_row" = true) (k5 : PySem.W.keepIn K (.ref f5) = true)
    (a6 : PySem.W.nsIn K mainGlobals "renamed" = some (some (.ref f6))) (l6 : K.lookup f6 = some ⟨oc6, od6, .func (PySem.W.fnOf "renamed" "renamed" (defArgs sRenamed) (defBody sRenamed) (defScope sRenamed) .none kV6 dc6 pm6 an6 cd6 ct6), sl6⟩) (c6 : PySem.W.codeIn K cd6 "renamed" = true) (k6 : PySem.W.keepIn K (.ref f6) = true)
    (a7 : PySem.W.nsIn K mainGlobals "is_whole_numbers" = some (some (.ref f7))) (l7 : K.lookup f7 = some ⟨oc7, od7, .func (PySem.W.fnOf "is_whole" "is_whole" (defArgs sWholeN) (defBody sWholeN) (defScope sWholeN) .none kV7 dc7 pm7 an7 cd7 ct7), sl7⟩) (c7 : PySem.W.codeIn K cd7 "is_whole" = true) (k7 : PySem.W.keepIn K (.ref f7) = true)
    (a8 : PySem.W.nsIn K mainGlobals "check_bases" = some (some (.ref f8))) (l8 : K.lookup f8 = some ⟨oc8, od8, .func (PySem.W.fnOf "check_bases" "check_bases" (defArgs sCheck) (defBody sCheck) (defScope sCheck) .none kV8 dc8 pm8 an8 cd8 ct8), sl8⟩) (c8 : PySem.W.codeIn K cd8 "check_bases" = true) (k8 : PySem.W.keepIn K (.ref f8) = true)
    (a9 : PySem.W.nsIn K mainGlobals "turned" = some (some (.ref f9))) (l9 : K.lookup f9 = some ⟨oc9, od9, .func (PySem.W.fnOf "turned" "turned" (defArgs sTurned) (defBody sTurned) (defScope sTurned) .none kV9 dc9 pm9 an9 cd9 ct9), sl9⟩) (c9 : PySem.W.codeIn K cd9 "turned" = true) (k9 : PySem.W.keepIn K (.ref f9) = true)
    (a10 : PySem.W.nsIn K mainGlobals "developed" = some (some (.ref f10))) (l10 : K.lookup f10 = some ⟨oc10, od10, .func (PySem.W.fnOf "developed" "developed" (defArgs sDeveloped) (defBody sDeveloped) (defScope sDeveloped) .none kV10 dc10 pm10 an10 cd10 ct10), sl10⟩) (c10 : PySem.W.codeIn K cd10 "developed" = true) (k10 : PySem.W.keepIn K (.ref f10) = true)
    (a11 : PySem.W.nsIn K mainGlobals "differences" = some (some (.ref f11))) (l11 : K.lookup f11 = some ⟨oc11, od11, .func (PySem.W.fnOf "differences" "differences" (defArgs sDiffs) (defBody sDiffs) (defScope sDiffs) .none kV11 dc11 pm11 an11 cd11 ct11), sl11⟩) (c11 : PySem.W.codeIn K cd11 "differences" = true) (k11 : PySem.W.keepIn K (.ref f11) = true)
    (a12 : PySem.W.nsIn K mainGlobals "counted" = some (some (.ref f12))) (l12 : K.lookup f12 = some ⟨oc12, od12, .func (PySem.W.fnOf "counted" "counted" (defArgs sCounted) (defBody sCounted) (defScope sCounted) .none kV12 dc12 pm12 an12 cd12 ct12), sl12⟩) (c12 : PySem.W.codeIn K cd12 "counted" = true) (k12 : PySem.W.keepIn K (.ref f12) = true)
    (a13 : PySem.W.nsIn K mainGlobals "turns_told" = some (some (.ref f13))) (l13 : K.lookup f13 = some ⟨oc13, od13, .func (PySem.W.fnOf "turns_told" "turns_told" (defArgs sTurns) (defBody sTurns) (defScope sTurns) .none kV13 dc13 pm13 an13 cd13 ct13), sl13⟩) (c13 : PySem.W.codeIn K cd13 "turns_told" = true) (k13 : PySem.W.keepIn K (.ref f13) = true)
    (a14 : PySem.W.nsIn K mainGlobals "_law_cell" = some (some (.ref f14))) (l14 : K.lookup f14 = some ⟨oc14, od14, .func (PySem.W.fnOf "_law_cell" "_law_cell" (defArgs sCell) (defBody sCell) (defScope sCell) .none kV14 dc14 pm14 an14 cd14 ct14), sl14⟩) (c14 : PySem.W.codeIn K cd14 "_law_cell" = true) (k14 : PySem.W.keepIn K (.ref f14) = true)
    (a15 : PySem.W.nsIn K mainGlobals "_law_numbers" = some (some (.ref f15))) (l15 : K.lookup f15 = some ⟨oc15, od15, .func (PySem.W.fnOf "_law_numbers" "_law_numbers" (defArgs sNumbers) (defBody sNumbers) (defScope sNumbers) .none kV15 dc15 pm15 an15 cd15 ct15), sl15⟩) (c15 : PySem.W.codeIn K cd15 "_law_numbers" = true) (k15 : PySem.W.keepIn K (.ref f15) = true)
    (a16 : PySem.W.nsIn K mainGlobals "_law_base" = some (some (.ref f16))) (l16 : K.lookup f16 = some ⟨oc16, od16, .func (PySem.W.fnOf "_law_base" "_law_base" (defArgs sBase) (defBody sBase) (defScope sBase) .none kV16 dc16 pm16 an16 cd16 ct16), sl16⟩) (c16 : PySem.W.codeIn K cd16 "_law_base" = true) (k16 : PySem.W.keepIn K (.ref f16) = true)
    (a17 : PySem.W.nsIn K mainGlobals "_law_gcd" = some (some (.ref f17))) (l17 : K.lookup f17 = some ⟨oc17, od17, .func (PySem.W.fnOf "_law_gcd" "_law_gcd" (defArgs sGcd) (defBody sGcd) (defScope sGcd) .none kV17 dc17 pm17 an17 cd17 ct17), sl17⟩) (c17 : PySem.W.codeIn K cd17 "_law_gcd" = true) (k17 : PySem.W.keepIn K (.ref f17) = true)
    (a18 : PySem.W.nsIn K mainGlobals "_law_moved" = some (some (.ref f18))) (l18 : K.lookup f18 = some ⟨oc18, od18, .func (PySem.W.fnOf "_law_moved" "_law_moved" (defArgs sMoved) (defBody sMoved) (defScope sMoved) .none kV18 dc18 pm18 an18 cd18 ct18), sl18⟩) (c18 : PySem.W.codeIn K cd18 "_law_moved" = true) (k18 : PySem.W.keepIn K (.ref f18) = true)
    (a19 : PySem.W.nsIn K mainGlobals "_law_developed_again" = some (some (.ref f19))) (l19 : K.lookup f19 = some ⟨oc19, od19, .func (PySem.W.fnOf "_law_developed_again" "_law_developed_again" (defArgs sAgain) (defBody sAgain) (defScope sAgain) .none kV19 dc19 pm19 an19 cd19 ct19), sl19⟩) (c19 : PySem.W.codeIn K cd19 "_law_developed_again" = true) (k19 : PySem.W.keepIn K (.ref f19) = true)
    (a20 : PySem.W.nsIn K mainGlobals "_law_pairs_right" = some (some (.ref f20))) (l20 : K.lookup f20 = some ⟨oc20, od20, .func (PySem.W.fnOf "_law_pairs_right" "_law_pairs_right" (defArgs sPairs) (defBody sPairs) (defScope sPairs) .none kV20 dc20 pm20 an20 cd20 ct20), sl20⟩) (c20 : PySem.W.codeIn K cd20 "_law_pairs_right" = true) (k20 : PySem.W.keepIn K (.ref f20) = true)
    (a21 : PySem.W.nsIn K mainGlobals "_law_alike" = some (some (.ref f21))) (l21 : K.lookup f21 = some ⟨oc21, od21, .func (PySem.W.fnOf "_law_alike" "_law_alike" (defArgs sAlike) (defBody sAlike) (defScope sAlike) .none kV21 dc21 pm21 an21 cd21 ct21), sl21⟩) (c21 : PySem.W.codeIn K cd21 "_law_alike" = true) (k21 : PySem.W.keepIn K (.ref f21) = true)
    (a22 : PySem.W.nsIn K mainGlobals "law" = some (some (.ref f22))) (l22 : K.lookup f22 = some ⟨oc22, od22, .func (PySem.W.fnOf "law" "law" (defArgs sLaw) (defBody sLaw) (defScope sLaw) .none kV22 dc22 pm22 an22 cd22 ct22), sl22⟩) (c22 : PySem.W.codeIn K cd22 "law" = true) (k22 : PySem.W.keepIn K (.ref f22) = true)
    (z1 : PySem.W.nsIn K mainGlobals "isinstance" = some none) (z2 : PySem.W.nsIn K mainGlobals "int" = some none) (z3 : PySem.W.nsIn K mainGlobals "bool" = some none) (z4 : PySem.W.nsIn K mainGlobals "all" = some none) (z5 : PySem.W.nsIn K mainGlobals "len" = some none) (z6 : PySem.W.nsIn K mainGlobals "set" = some none) (z7 : PySem.W.nsIn K mainGlobals "list" = some none) (z8 : PySem.W.nsIn K mainGlobals "tuple" = some none) (z9 : PySem.W.nsIn K mainGlobals "sorted" = some none) (z10 : PySem.W.nsIn K mainGlobals "range" = some none) (z11 : PySem.W.nsIn K mainGlobals "min" = some none) (z12 : PySem.W.nsIn K mainGlobals "sum" = some none) (z13 : PySem.W.nsIn K mainGlobals "abs" = some none)
    (mp : PySem.W.nsIn K mainGlobals "MOST_POINTS" = some (some (.int 60 tp))) (mb : PySem.W.nsIn K mainGlobals "MOST_BLOCKS" = some (some (.int 200 tb))) :
    ∃ fd : FuncData, (∀ (s : Shared) (v : Value), BindsTo s fd ⟨[v], []⟩ [("_law_script", v)]) ∧ ∀ base : Heap, K.In base → base.Ns mainGlobals mg → FnOk l.prog w K mg base CX0 7 fa fd ["_law_script"] (spLaw K) := by
  have e := hfa.symm.trans (PySem.W.mg_of X G a22)
  cases e
  have T : Txt mg := ⟨PySem.W.mg_none_of X G z1, PySem.W.mg_none_of X G z2, PySem.W.mg_none_of X G z3, PySem.W.mg_none_of X G z4, PySem.W.mg_none_of X G z5, PySem.W.mg_none_of X G z6, PySem.W.mg_none_of X G z7, PySem.W.mg_none_of X G z8, PySem.W.mg_none_of X G z9, PySem.W.mg_none_of X G z10, PySem.W.mg_none_of X G z11, PySem.W.mg_none_of X G z12, PySem.W.mg_none_of X G z13, ⟨_, PySem.W.mg_of X G mp⟩, ⟨_, PySem.W.mg_of X G mb⟩⟩
  have F1 := fun_mk (st := sWholeL) l1 c1 k1
  have F2 := fun_mk (st := sPoint) l2 c2 k2
  have F3 := fun_mk (st := sBlock) l3 c3 k3
  have F4 := fun_mk (st := sSortedL) l4 c4 k4
  have F5 := fun_mk (st := sRow) l5 c5 k5
  have F6 := fun_mk (st := sRenamed) l6 c6 k6
  have F7 := fun_mk (st := sWholeN) l7 c7 k7
  have F8 := fun_mk (st := sCheck) l8 c8 k8
  have F9 := fun_mk (st := sTurned) l9 c9 k9
  have F10 := fun_mk (st := sDeveloped) l10 c10 k10
  have F11 := fun_mk (st := sDiffs) l11 c11 k11
  have F12 := fun_mk (st := sCounted) l12 c12 k12
  have F13 := fun_mk (st := sTurns) l13 c13 k13
  have F14 := fun_mk (st := sCell) l14 c14 k14
  have F15 := fun_mk (st := sNumbers) l15 c15 k15
  have F16 := fun_mk (st := sBase) l16 c16 k16
  have F17 := fun_mk (st := sGcd) l17 c17 k17
  have F18 := fun_mk (st := sMoved) l18 c18 k18
  have F19 := fun_mk (st := sAgain) l19 c19 k19
  have F20 := fun_mk (st := sPairs) l20 c20 k20
  have F21 := fun_mk (st := sAlike) l21 c21 k21
  have F22 := fun_mk (st := sLaw) l22 c22 k22
  refine ⟨PySem.W.fnOf "law" "law" (defArgs sLaw) (defBody sLaw) (defScope sLaw) .none kV22 dc22 pm22 an22 cd22 ct22, fun s v => .of_eq rfl, fun base _ _ => ?_⟩
  have C1 : Cal l.prog w K mg base 1 "is_whole_layouts" ["thing"] (spD pWhole) f1 _ := ⟨ok_wholeL F1 T, PySem.W.mg_of X G a1, F1.kp, F1.binds (ps := ["thing"]) fun _ _ _ _ _ _ us hl => match us, hl with | [_], _ => rfl⟩
  have C2 : Cal l.prog w K mg base 2 "is_point" ["thing", "points"] (spD pPoint) f2 _ := ⟨ok_point F2 T C1, PySem.W.mg_of X G a2, F2.kp, F2.binds (ps := ["thing", "points"]) fun _ _ _ _ _ _ us hl => match us, hl with | [_, _], _ => rfl⟩
  have C3 : Cal l.prog w K mg base 3 "is_block" ["things", "points"] (spD pBlock) f3 _ := ⟨ok_block F3 T C2, PySem.W.mg_of X G a3, F3.kp, F3.binds (ps := ["things", "points"]) fun _ _ _ _ _ _ us hl => match us, hl with | [_, _], _ => rfl⟩
  have C4 : Cal l.prog w K mg base 1 "sorted_layout" ["layout"] (spD pSortedL) f4 _ := ⟨ok_sortedL F4 T, PySem.W.mg_of X G a4, F4.kp, F4.binds (ps := ["layout"]) fun _ _ _ _ _ _ us hl => match us, hl with | [_], _ => rfl⟩
  have C5 : Cal l.prog w K mg base 4 "is_row" ["row", "points"] (spD pRow) f5 _ := ⟨ok_row F5 T C3, PySem.W.mg_of X G a5, F5.kp, F5.binds (ps := ["row", "points"]) fun _ _ _ _ _ _ us hl => match us, hl with | [_, _], _ => rfl⟩
  have C6 : Cal l.prog w K mg base 5 "renamed" ["layout", "row"] (spD pRenamed) f6 _ := ⟨ok_renamed F6 T C5, PySem.W.mg_of X G a6, F6.kp, F6.binds (ps := ["layout", "row"]) fun _ _ _ _ _ _ us hl => match us, hl with | [_, _], _ => rfl⟩
  have C7 : Cal l.prog w K mg base 1 "is_whole_numbers" ["thing"] (spD pWhole) f7 _ := ⟨ok_wholeN F7 T, PySem.W.mg_of X G a7, F7.kp, F7.binds (ps := ["thing"]) fun _ _ _ _ _ _ us hl => match us, hl with | [_], _ => rfl⟩
  have C8 : Cal l.prog w K mg base 4 "check_bases" ["n", "bases"] (spD pCheck) f8 _ := ⟨ok_check F8 T C7 C3, PySem.W.mg_of X G a8, F8.kp, F8.binds (ps := ["n", "bases"]) fun _ _ _ _ _ _ us hl => match us, hl with | [_, _], _ => rfl⟩
  have C9 : Cal l.prog w K mg base 1 "turned" ["block", "by", "n"] (spD pTurned) f9 _ := ⟨ok_turned F9 T, PySem.W.mg_of X G a9, F9.kp, F9.binds (ps := ["block", "by", "n"]) fun _ _ _ _ _ _ us hl => match us, hl with | [_, _, _], _ => rfl⟩
  have C10 : Cal l.prog w K mg base 5 "developed" ["n", "bases"] (spD pDev) f10 _ := ⟨ok_developed F10 T C8 C9, PySem.W.mg_of X G a10, F10.kp, F10.binds (ps := ["n", "bases"]) fun _ _ _ _ _ _ us hl => match us, hl with | [_, _], _ => rfl⟩
  have C11 : Cal l.prog w K mg base 5 "differences" ["n", "bases"] (spD pDiffs) f11 _ := ⟨ok_diffs F11 T C8, PySem.W.mg_of X G a11, F11.kp, F11.binds (ps := ["n", "bases"]) fun _ _ _ _ _ _ us hl => match us, hl with | [_, _], _ => rfl⟩
  have C12 : Cal l.prog w K mg base 1 "counted" ["blocks"] spCounted f12 _ := ⟨ok_counted F12 T, PySem.W.mg_of X G a12, F12.kp, F12.binds (ps := ["blocks"]) fun _ _ _ _ _ _ us hl => match us, hl with | [_], _ => rfl⟩
  have C13 : Cal l.prog w K mg base 2 "turns_told" ["layout"] (spD pTurns) f13 _ := ⟨ok_turns F13 T C9 C12, PySem.W.mg_of X G a13, F13.kp, F13.binds (ps := ["layout"]) fun _ _ _ _ _ _ us hl => match us, hl with | [_], _ => rfl⟩
  have C14 : Cal l.prog w K mg base 1 "_law_cell" ["_law_script", "_law_k"] (spCell K) f14 _ := ⟨ok_cell F14 T, PySem.W.mg_of X G a14, F14.kp, F14.binds (ps := ["_law_script", "_law_k"]) fun _ _ _ _ _ _ us hl => match us, hl with | [_, _], _ => rfl⟩
  have C15 : Cal l.prog w K mg base 1 "_law_numbers" ["_law_cell_here", "_law_many"] spNums f15 _ := ⟨ok_numbers F15 T, PySem.W.mg_of X G a15, F15.kp, F15.binds (ps := ["_law_cell_here", "_law_many"]) fun _ _ _ _ _ _ us hl => match us, hl with | [_, _], _ => rfl⟩
  have C16 : Cal l.prog w K mg base 1 "_law_base" ["_law_n", "_law_x"] (spD pBase) f16 _ := ⟨ok_base F16 T, PySem.W.mg_of X G a16, F16.kp, F16.binds (ps := ["_law_n", "_law_x"]) fun _ _ _ _ _ _ us hl => match us, hl with | [_, _], _ => rfl⟩
  have C17 : Cal l.prog w K mg base 1 "_law_gcd" ["_law_one", "_law_other"] (spD pGcd) f17 _ := ⟨ok_gcd F17 T, PySem.W.mg_of X G a17, F17.kp, F17.binds (ps := ["_law_one", "_law_other"]) fun _ _ _ _ _ _ us hl => match us, hl with | [_, _], _ => rfl⟩
  have C18 : Cal l.prog w K mg base 1 "_law_moved" ["_law_base_here", "_law_n", "_law_by", "_law_times"] (spD pMoved) f18 _ := ⟨ok_moved F18 T, PySem.W.mg_of X G a18, F18.kp, F18.binds (ps := ["_law_base_here", "_law_n", "_law_by", "_law_times"]) fun _ _ _ _ _ _ us hl => match us, hl with | [_, _, _, _], _ => rfl⟩
  have C19 : Cal l.prog w K mg base 2 "_law_developed_again" ["_law_n", "_law_told"] (spD pAgain) f19 _ := ⟨ok_again F19 T C18, PySem.W.mg_of X G a19, F19.kp, F19.binds (ps := ["_law_n", "_law_told"]) fun _ _ _ _ _ _ us hl => match us, hl with | [_, _], _ => rfl⟩
  have C20 : Cal l.prog w K mg base 1 "_law_pairs_right" ["_law_n", "_law_blocks", "_law_counts"] (spD pPairs) f20 _ := ⟨ok_pairs F20 T, PySem.W.mg_of X G a20, F20.kp, F20.binds (ps := ["_law_n", "_law_blocks", "_law_counts"]) fun _ _ _ _ _ _ us hl => match us, hl with | [_, _, _], _ => rfl⟩
  have C21 : Cal l.prog w K mg base 6 "_law_alike" ["_law_n", "_law_bases", "_law_other"] (spD pAlike) f21 _ := ⟨ok_alike F21 T C11 C10 C4 C13, PySem.W.mg_of X G a21, F21.kp, F21.binds (ps := ["_law_n", "_law_bases", "_law_other"]) fun _ _ _ _ _ _ us hl => match us, hl with | [_, _, _], _ => rfl⟩
  exact ok_law F22 T C14 C15 C16 C10 C13 C19 C11 C20 C18 C21 C17 C4 C6
end EvW
-- part EvHead
open PySem PySem.W PyProof.Rows
set_option maxHeartbeats 0 in
theorem PySem.Challenge.cw_evenmeet_k40_whole_bases_taken_so_often_holds : PySem.Challenge.rw_evenmeet_k40_whole_bases_taken_so_often.Holds := by
  w_on; o_law; k_head; (case hw => w_witness2)
  k_fill
  refine L2.walk_of (l := PySem.Challenge.rw_evenmeet_k40_whole_bases_taken_so_often) (n := 63) (k := 7) (x := "_law_script") (CX := fun _ => L2.CX0) (sp := fun w => EvW.spLaw _) rfl (by decide) rfl ⟨rfl, by decide, by decide⟩ (fun w h Y => PySem.W.kIn_of Y) ?F (fun _ _ a ns hl _ hS => ⟨a, ns, rfl, hS, hl, fun _ => rfl⟩) (fun _ _ _ _ _ h => h)
  case F =>
    intro w mg fa h KX G hmg
    refine' EvW.all_mk KX G hmg ?a1 ?l1 ?c1 ?k1 ?a2 ?l2 ?c2 ?k2 ?a3 ?l3 ?c3 ?k3 ?a4 ?l4 ?c4 ?k4 ?a5 ?l5 ?c5 ?k5 ?a6 ?l6 ?c6 ?k6 ?a7 ?l7 ?c7 ?k7 ?a8 ?l8 ?c8 ?k8 ?a9 ?l9 ?c9 ?k9 ?a10 ?l10 ?c10 ?k10 ?a11 ?l11 ?c11 ?k11 ?a12 ?l12 ?c12 ?k12 ?a13 ?l13 ?c13 ?k13 ?a14 ?l14 ?c14 ?k14 ?a15 ?l15 ?c15 ?k15 ?a16 ?l16 ?c16 ?k16 ?a17 ?l17 ?c17 ?k17 ?a18 ?l18 ?c18 ?k18 ?a19 ?l19 ?c19 ?k19 ?a20 ?l20 ?c20 ?k20 ?a21 ?l21 ?c21 ?k21 ?a22 ?l22 ?c22 ?k22 ?z1 ?z2 ?z3 ?z4 ?z5 ?z6 ?z7 ?z8 ?z9 ?z10 ?z11 ?z12 ?z13 ?mp ?mb
    (case a1 => k_is)
    (case l1 => k_is)
    (case c1 => k_is)
    (case k1 => k_is)
    (case a2 => k_is)
    (case l2 => k_is)
    (case c2 => k_is)
    (case k2 => k_is)
    (case a3 => k_is)
    (case l3 => k_is)
    (case c3 => k_is)
    (case k3 => k_is)
    (case a4 => k_is)
    (case l4 => k_is)
    (case c4 => k_is)
    (case k4 => k_is)
    (case a5 => k_is)
    (case l5 => k_is)
    (case c5 => k_is)
    (case k5 => k_is)
    (case a6 => k_is)
    (case l6 => k_is)
    (case c6 => k_is)
    (case k6 => k_is)
    (case a7 => k_is)
    (case l7 => k_is)
    (case c7 => k_is)
    (case k7 => k_is)
    (case a8 => k_is)
    (case l8 => k_is)
    (case c8 => k_is)
    (case k8 => k_is)
    (case a9 => k_is)
    (case l9 => k_is)
    (case c9 => k_is)
    (case k9 => k_is)
    (case a10 => k_is)
    (case l10 => k_is)
    (case c10 => k_is)
    (case k10 => k_is)
    (case a11 => k_is)
    (case l11 => k_is)
    (case c11 => k_is)
    (case k11 => k_is)
    (case a12 => k_is)
    (case l12 => k_is)
    (case c12 => k_is)
    (case k12 => k_is)
    (case a13 => k_is)
    (case l13 => k_is)
    (case c13 => k_is)
    (case k13 => k_is)
    (case a14 => k_is)
    (case l14 => k_is)
    (case c14 => k_is)
    (case k14 => k_is)
    (case a15 => k_is)
    (case l15 => k_is)
    (case c15 => k_is)
    (case k15 => k_is)
    (case a16 => k_is)
    (case l16 => k_is)
    (case c16 => k_is)
    (case k16 => k_is)
    (case a17 => k_is)
    (case l17 => k_is)
    (case c17 => k_is)
    (case k17 => k_is)
    (case a18 => k_is)
    (case l18 => k_is)
    (case c18 => k_is)
    (case k18 => k_is)
    (case a19 => k_is)
    (case l19 => k_is)
    (case c19 => k_is)
    (case k19 => k_is)
    (case a20 => k_is)
    (case l20 => k_is)
    (case c20 => k_is)
    (case k20 => k_is)
    (case a21 => k_is)
    (case l21 => k_is)
    (case c21 => k_is)
    (case k21 => k_is)
    (case a22 => k_is)
    (case l22 => k_is)
    (case c22 => k_is)
    (case k22 => k_is)
    (case z1 => k_is)
    (case z2 => k_is)
    (case z3 => k_is)
    (case z4 => k_is)
    (case z5 => k_is)
    (case z6 => k_is)
    (case z7 => k_is)
    (case z8 => k_is)
    (case z9 => k_is)
    (case z10 => k_is)
    (case z11 => k_is)
    (case z12 => k_is)
    (case z13 => k_is)
    (case mp => k_is)
    (case mb => k_is)
