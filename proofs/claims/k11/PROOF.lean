import PyProof.Rows.All
import Wide.All
import OpenK.AllK
import Wide.FinOn
import PySem.Challenge.RW_oncewords_k11_whole_common_kinds
import HandS.ForMost
import HandS.Evl
import HandS.IsInst
import HandS.Walk
import HandS.ForExc
import HandS.More
import PyProof.CollectStr
import HandS.MapObj
import PyProof.CollectIter
import PyProof.EnumMake
import HandS.TupAny
import PyProof.WalkInts
import HandS.Replace
import HandS.ReplaceList
import HandS.Deep
import HandS.DictComp
import HandS.WordsDict
import HandS.Iter
import KE.GoesEnum
import KE.GoesMore
import HandS.TupLe
import HandS.SetFor
import HandS.Strs
import KE.SortData
import HandS.TryOnly
import HandS.ExcOwn
import HandS.WordsExc
import PyProof.CompFree
import PyProof.ConsumeWalk
import PyProof.StrWalks
set_option Elab.async false
set_option linter.all false
set_option maxRecDepth 100000
set_option maxHeartbeats 4000000
/-! The plain law: words, least orders, beginnings as restriction, greatest common beginning, least bound. -/
namespace Ow

/-! ### what stands ahead -/
def bef (w : List Nat) (b : Nat) : List Nat := w.takeWhile (fun x => x != b)

theorem bef_nil (b : Nat) : bef [] b = [] := rfl
theorem bef_self (b : Nat) (r : List Nat) : bef (b :: r) b = [] := by
  unfold bef; rw [List.takeWhile_cons]; simp
theorem bef_ne {a b : Nat} (r : List Nat) (h : a ≠ b) : bef (a :: r) b = a :: bef r b := by
  unfold bef; rw [List.takeWhile_cons]; simp [h]
theorem bef_sub {w : List Nat} {a b : Nat} (h : a ∈ bef w b) : a ∈ w := by
  unfold bef at h; exact (List.takeWhile_prefix _).subset h
theorem bef_not {w : List Nat} {b : Nat} : b ∉ bef w b := by
  intro h
  unfold bef at h
  have := List.all_takeWhile (p := fun x => x != b) (l := w)
  rw [List.all_eq_true] at this
  have z := this b h
  simp at z
theorem bef_app_in {u v : List Nat} {b : Nat} (h : b ∈ u) : bef (u ++ v) b = bef u b := by
  induction u with
  | nil => cases h
  | cons x r ih =>
    by_cases e : x = b
    · subst e; rw [List.cons_append, bef_self, bef_self]
    · rw [List.cons_append, bef_ne _ e, bef_ne _ e]
      rcases List.mem_cons.mp h with q | q
      · exact absurd q.symm e
      · rw [ih q]
theorem bef_app_out {u v : List Nat} {b : Nat} (h : b ∉ u) : bef (u ++ v) b = u ++ bef v b := by
  induction u with
  | nil => rfl
  | cons x r ih =>
    have e : x ≠ b := fun e => h (e ▸ List.mem_cons_self)
    rw [List.cons_append, bef_ne _ e, ih (fun q => h (List.mem_cons_of_mem _ q)), List.cons_append]
theorem bef_filter {p : Nat → Bool} {b : Nat} (hb : p b = true) : ∀ w : List Nat, bef (w.filter p) b = (bef w b).filter p
  | [] => rfl
  | x :: r => by
    by_cases e : x = b
    · subst e
      rw [List.filter_cons, if_pos hb, bef_self, bef_self]; rfl
    · rw [bef_ne _ e, List.filter_cons, List.filter_cons]
      by_cases hx : p x = true
      · rw [if_pos hx, if_pos hx, bef_ne _ e, bef_filter hb r]
      · rw [if_neg hx, if_neg hx, bef_filter hb r]
/-- of two letters one stands ahead -/
theorem bef_total {w : List Nat} {a b : Nat} (ha : a ∈ w) (hb : b ∈ w) (ne : a ≠ b) : a ∈ bef w b ∨ b ∈ bef w a := by
  induction w with
  | nil => cases ha
  | cons x r ih =>
    by_cases e1 : x = a
    · subst e1; left; rw [bef_ne _ ne]; exact List.mem_cons_self
    · by_cases e2 : x = b
      · subst e2; right; rw [bef_ne _ e1]; exact List.mem_cons_self
      · rw [bef_ne _ e2, bef_ne _ e1]
        have h1 : a ∈ r := (List.mem_cons.mp ha).resolve_left fun z => e1 z.symm
        have h2 : b ∈ r := (List.mem_cons.mp hb).resolve_left fun z => e2 z.symm
        rcases ih h1 h2 with h | h
        · exact .inl (List.mem_cons_of_mem _ h)
        · exact .inr (List.mem_cons_of_mem _ h)
theorem bef_anti {w : List Nat} {a b : Nat} (h : a ∈ bef w b) : b ∉ bef w a := by
  induction w with
  | nil => exact fun z => by cases z
  | cons x r ih =>
    by_cases e1 : x = a
    · subst e1; rw [bef_self]; exact fun z => by cases z
    · by_cases e2 : x = b
      · subst e2; rw [bef_self] at h; cases h
      · rw [bef_ne _ e2] at h; rw [bef_ne _ e1]
        have h' := (List.mem_cons.mp h).resolve_left fun z => e1 z.symm
        intro z
        exact ih h' ((List.mem_cons.mp z).resolve_left fun z => e2 z.symm)

/-! ### one kind of letters restricts another one -/
section
variable (F : Nat → Nat → Bool)
def Rst (K L : List Nat) : Prop := ∀ b ∈ K, b ∈ L ∧ ∀ a, F a b = true → (a ∈ bef K b ↔ a ∈ bef L b)
variable {F}
theorem Rst.refl (K : List Nat) : Rst F K K := fun _ h => ⟨h, fun _ _ => Iff.rfl⟩
theorem Rst.trans {K L M : List Nat} (h : Rst F K L) (g : Rst F L M) : Rst F K M := fun b hb =>
  ⟨(g b (h b hb).1).1, fun a f => ((h b hb).2 a f).trans ((g b (h b hb).1).2 a f)⟩
theorem Rst.mem {K L : List Nat} (h : Rst F K L) {b : Nat} (hb : b ∈ K) : b ∈ L := (h b hb).1

/-! ### the least order -/
/-- the letters that may stand first, in their order -/
def freesA (F : Nat → Nat → Bool) (pre : List Nat) : List Nat → List Nat
  | [] => []
  | x :: r => if pre.all (fun a => !F a x) then x :: freesA F (pre ++ [x]) r else freesA F (pre ++ [x]) r
def frees (F : Nat → Nat → Bool) (w : List Nat) : List Nat := freesA F [] w
def leastOf : List Nat → Nat
  | [] => 0
  | x :: r => r.foldl min x
def nfk (F : Nat → Nat → Bool) : Nat → List Nat → List Nat
  | 0, _ => []
  | k + 1, w => leastOf (frees F w) :: nfk F k (w.filter (fun x => x != leastOf (frees F w)))
def nf (F : Nat → Nat → Bool) (w : List Nat) : List Nat := nfk F w.length w

theorem foldl_min_le : ∀ (r : List Nat) (x : Nat), r.foldl min x ≤ x ∧ (∀ y ∈ r, r.foldl min x ≤ y) ∧ (r.foldl min x = x ∨ r.foldl min x ∈ r)
  | [], x => ⟨Nat.le_refl _, fun _ h => (by cases h), .inl rfl⟩
  | z :: r, x => by
    obtain ⟨h1, h2, h3⟩ := foldl_min_le r (min x z)
    rw [List.foldl_cons]
    refine ⟨Nat.le_trans h1 (Nat.min_le_left _ _), fun y hy => ?_, ?_⟩
    · rcases List.mem_cons.mp hy with rfl | hy
      · exact Nat.le_trans h1 (Nat.min_le_right _ _)
      · exact h2 y hy
    · rcases h3 with h3 | h3
      · rw [h3]
        rcases Nat.le_total x z with q | q
        · left; exact Nat.min_eq_left q
        · right; rw [Nat.min_eq_right q]; exact List.mem_cons_self
      · exact .inr (List.mem_cons_of_mem _ h3)
theorem leastOf_mem {l : List Nat} (h : l ≠ []) : leastOf l ∈ l := by
  cases l with
  | nil => exact absurd rfl h
  | cons x r =>
    obtain ⟨_, _, h3⟩ := foldl_min_le r x
    show r.foldl min x ∈ x :: r
    rcases h3 with h3 | h3
    · rw [h3]; exact List.mem_cons_self
    · exact List.mem_cons_of_mem _ h3
theorem leastOf_le {l : List Nat} {y : Nat} (h : y ∈ l) : leastOf l ≤ y := by
  cases l with
  | nil => cases h
  | cons x r =>
    obtain ⟨h1, h2, _⟩ := foldl_min_le r x
    show r.foldl min x ≤ y
    rcases List.mem_cons.mp h with rfl | h
    · exact h1
    · exact h2 y h
theorem leastOf_of {l : List Nat} {m : Nat} (hm : m ∈ l) (h : ∀ y ∈ l, m ≤ y) : leastOf l = m := by
  have hne : l ≠ [] := fun e => by rw [e] at hm; cases hm
  exact Nat.le_antisymm (leastOf_le hm) (h _ (leastOf_mem hne))
theorem mem_freesA : ∀ {w pre : List Nat} {x : Nat}, w.Nodup → (∀ y ∈ w, y ∉ pre) → (x ∈ freesA F pre w ↔ x ∈ w ∧ (∀ a ∈ pre, F a x = false) ∧ ∀ a ∈ bef w x, F a x = false)
  | [], _, _, _, _ => by simp [freesA]
  | y :: r, pre, x, hn, hp => by
    obtain ⟨h1, h2⟩ := List.nodup_cons.mp hn
    have ih := mem_freesA (w := r) (pre := pre ++ [y]) (x := x) h2 (fun z hz hm => by
      rcases List.mem_append.mp hm with q | q
      · exact hp z (List.mem_cons_of_mem _ hz) q
      · exact h1 (by rw [List.mem_singleton] at q; rw [← q]; exact hz))
    by_cases e : x = y
    · subst e
      have nr : x ∉ freesA F (pre ++ [x]) r := fun z => h1 (ih.mp z).1
      unfold freesA
      rw [bef_self]
      by_cases hc : (pre.all fun a => !F a x) = true
      · rw [if_pos hc]
        refine ⟨fun _ => ⟨List.mem_cons_self, fun a ha => by simpa using (List.all_eq_true.mp hc) a ha, fun a ha => by cases ha⟩, fun _ => List.mem_cons_self⟩
      · rw [if_neg hc]
        refine ⟨fun z => absurd z nr, fun z => absurd (List.all_eq_true.mpr fun a ha => by simpa using z.2.1 a ha) hc⟩
    · have e' : y ≠ x := fun z => e z.symm
      have step : x ∈ freesA F pre (y :: r) ↔ x ∈ freesA F (pre ++ [y]) r := by
        show x ∈ (if (pre.all fun a => !F a y) = true then y :: freesA F (pre ++ [y]) r else freesA F (pre ++ [y]) r) ↔ _
        split
        · exact ⟨fun z => (List.mem_cons.mp z).resolve_left e, fun z => List.mem_cons_of_mem _ z⟩
        · exact Iff.rfl
      rw [step, ih, bef_ne _ e']
      constructor
      · rintro ⟨g1, g2, g3⟩
        refine ⟨List.mem_cons_of_mem _ g1, fun a ha => g2 a (List.mem_append_left _ ha), fun a ha => ?_⟩
        rcases List.mem_cons.mp ha with rfl | ha
        · exact g2 a (List.mem_append_right _ (List.mem_singleton.mpr rfl))
        · exact g3 a ha
      · rintro ⟨g1, g2, g3⟩
        refine ⟨(List.mem_cons.mp g1).resolve_left e, fun a ha => ?_, fun a ha => g3 a (List.mem_cons_of_mem _ ha)⟩
        rcases List.mem_append.mp ha with q | q
        · exact g2 a q
        · rw [List.mem_singleton] at q; rw [q]; exact g3 y List.mem_cons_self
theorem mem_frees {w : List Nat} {x : Nat} (hn : w.Nodup) : x ∈ frees F w ↔ x ∈ w ∧ ∀ a ∈ bef w x, F a x = false := by
  have := mem_freesA (F := F) (w := w) (pre := []) (x := x) hn (fun _ _ h => by cases h)
  unfold frees
  rw [this]
  exact ⟨fun ⟨a, _, b⟩ => ⟨a, b⟩, fun ⟨a, b⟩ => ⟨a, fun _ h => (by cases h), b⟩⟩
theorem frees_ne {w : List Nat} (h : w ≠ []) : frees F w ≠ [] := by
  cases w with
  | nil => exact absurd rfl h
  | cons x r => intro z; unfold frees freesA at z; simp at z
theorem frees_first {x : Nat} {r : List Nat} : x ∈ frees F (x :: r) := by unfold frees freesA; simp
theorem filter_ne_length {w : List Nat} {m : Nat} (hn : w.Nodup) (hm : m ∈ w) : (w.filter (fun x => x != m)).length + 1 = w.length := by
  induction w with
  | nil => cases hm
  | cons x r ih =>
    obtain ⟨h1, h2⟩ := List.nodup_cons.mp hn
    rw [List.filter_cons]
    by_cases e : x = m
    · subst e
      have : r.filter (fun y => y != x) = r := List.filter_eq_self.mpr fun y hy => by
        have : y ≠ x := fun z => h1 (z ▸ hy)
        simpa using this
      simp [this]
    · have hm' := (List.mem_cons.mp hm).resolve_left fun z => e z.symm
      have := ih h2 hm'
      simp [e]
      omega
theorem least_mem {w : List Nat} (hn : w.Nodup) (h : w ≠ []) : leastOf (frees F w) ∈ w ∧ ∀ a ∈ bef w (leastOf (frees F w)), F a (leastOf (frees F w)) = false :=
  (mem_frees hn).mp (leastOf_mem (frees_ne h))
theorem nodup_filter {w : List Nat} (p : Nat → Bool) (h : w.Nodup) : (w.filter p).Nodup := h.sublist List.filter_sublist
/-- letters of a least order are those of the word -/
theorem nfk_spec : ∀ (k : Nat) (w : List Nat), w.Nodup → w.length = k → (∀ x, x ∈ nfk F k w ↔ x ∈ w) ∧ (nfk F k w).Nodup ∧ (nfk F k w).length = k
  | 0, w, _, h => by
    have : w = [] := List.length_eq_zero_iff.mp h
    subst this
    exact ⟨fun x => Iff.rfl, List.nodup_nil, rfl⟩
  | k + 1, w, hn, h => by
    have hw : w ≠ [] := fun e => by rw [e] at h; cases h
    obtain ⟨hm, _⟩ := least_mem (F := F) hn hw
    generalize hg : leastOf (frees F w) = m at hm
    have hl := filter_ne_length hn hm
    obtain ⟨i1, i2, i3⟩ := nfk_spec k (w.filter (fun x => x != m)) (nodup_filter _ hn) (by omega)
    have e : nfk F (k + 1) w = m :: nfk F k (w.filter fun x => x != m) := by
      show leastOf (frees F w) :: nfk F k (w.filter (fun x => x != leastOf (frees F w))) = _
      rw [hg]
    rw [e]
    refine ⟨fun x => ?_, ?_, ?_⟩
    · rw [List.mem_cons, i1, List.mem_filter]
      constructor
      · rintro (rfl | ⟨q, _⟩)
        · exact hm
        · exact q
      · intro q
        by_cases z : x = m
        · exact .inl z
        · exact .inr ⟨q, by simpa using z⟩
    · refine List.nodup_cons.mpr ⟨fun z => ?_, i2⟩
      have := (i1 m).mp z
      rw [List.mem_filter] at this
      simp at this
    · rw [List.length_cons, i3]
theorem nf_mem {w : List Nat} (hn : w.Nodup) {x : Nat} : x ∈ nf F w ↔ x ∈ w := (nfk_spec _ w hn rfl).1 x
theorem nf_nodup {w : List Nat} (hn : w.Nodup) : (nf F w).Nodup := (nfk_spec _ w hn rfl).2.1
theorem nf_length {w : List Nat} (hn : w.Nodup) : (nf F w).length = w.length := (nfk_spec _ w hn rfl).2.2

/-- the least order keeps what stands ahead among friends -/
theorem nfk_bef (sym : ∀ a b, F a b = F b a) : ∀ (k : Nat) (w : List Nat), w.Nodup → w.length = k → ∀ b ∈ w, ∀ a, F a b = true → (a ∈ bef (nfk F k w) b ↔ a ∈ bef w b)
  | 0, w, _, h, b, hb, _, _ => by
    have : w = [] := List.length_eq_zero_iff.mp h
    subst this
    cases hb
  | k + 1, w, hn, h, b, hb, a, hF => by
    have hw : w ≠ [] := fun e => by rw [e] at h; cases h
    obtain ⟨hm, hf⟩ := least_mem (F := F) hn hw
    have e : nfk F (k + 1) w = leastOf (frees F w) :: nfk F k (w.filter fun x => x != leastOf (frees F w)) := rfl
    rw [e]
    generalize leastOf (frees F w) = m at hm hf
    have hl := filter_ne_length hn hm
    by_cases hbm : m = b
    · subst hbm
      rw [bef_self]
      refine ⟨fun z => (by cases z), fun z => ?_⟩
      have := hf a z
      rw [hF] at this
      cases this
    · rw [bef_ne _ hbm, List.mem_cons]
      have hb' : b ∈ w.filter (fun x => x != m) := List.mem_filter.mpr ⟨hb, by simpa using fun z : b = m => hbm z.symm⟩
      have ih := nfk_bef sym k (w.filter fun x => x != m) (nodup_filter _ hn) (by omega) b hb' a hF
      rw [ih, bef_filter (by simpa using fun z : b = m => hbm z.symm), List.mem_filter]
      constructor
      · rintro (rfl | ⟨q, _⟩)
        · -- a is the least one: b is its friend, so not ahead of it
          rcases bef_total hm hb hbm with q | q
          · exact q
          · have := hf b q
            rw [sym, hF] at this
            cases this
        · exact q
      · intro q
        by_cases z : a = m
        · exact .inl z
        · exact .inr ⟨q, by simpa using z⟩
theorem nf_sub (sym : ∀ a b, F a b = F b a) {w : List Nat} (hn : w.Nodup) : Rst F (nf F w) w := fun b hb =>
  ⟨(nf_mem hn).mp hb, fun a hF => nfk_bef sym _ w hn rfl b ((nf_mem hn).mp hb) a hF⟩
theorem sub_nf (sym : ∀ a b, F a b = F b a) {w : List Nat} (hn : w.Nodup) : Rst F w (nf F w) := fun b hb =>
  ⟨(nf_mem hn).mpr hb, fun a hF => (nfk_bef sym _ w hn rfl b hb a hF).symm⟩

theorem frees_eq {u v : List Nat} (hu : u.Nodup) (hv : v.Nodup) (h : Rst F u v) (g : Rst F v u) (x : Nat) : x ∈ frees F u ↔ x ∈ frees F v := by
  rw [mem_frees hu, mem_frees hv]
  constructor
  · rintro ⟨a, b⟩
    refine ⟨h.mem a, fun y hy => ?_⟩
    cases e : F y x with
    | false => rfl
    | true => rw [← b y (((h x a).2 y e).mpr hy), e]
  · rintro ⟨a, b⟩
    refine ⟨g.mem a, fun y hy => ?_⟩
    cases e : F y x with
    | false => rfl
    | true => rw [← b y (((g x a).2 y e).mpr hy), e]
theorem leastOf_congr {l r : List Nat} (h : ∀ x, x ∈ l ↔ x ∈ r) : leastOf l = leastOf r := by
  by_cases hl : l = []
  · subst hl
    have : r = [] := List.eq_nil_iff_forall_not_mem.mpr fun x hx => by have := (h x).mpr hx; cases this
    rw [this]
  · exact (leastOf_of ((h _).mp (leastOf_mem hl)) fun y hy => leastOf_le ((h y).mpr hy)).symm
theorem Rst.filter {u v : List Nat} {p : Nat → Bool} (h : Rst F u v) : Rst F (u.filter p) (v.filter p) := fun b hb => by
  obtain ⟨h1, h2⟩ := List.mem_filter.mp hb
  refine ⟨List.mem_filter.mpr ⟨h.mem h1, h2⟩, fun a hF => ?_⟩
  rw [bef_filter h2, bef_filter h2, List.mem_filter, List.mem_filter, (h b h1).2 a hF]
theorem nfk_congr : ∀ (k : Nat) (u v : List Nat), u.Nodup → v.Nodup → u.length = k → v.length = k → Rst F u v → Rst F v u → nfk F k u = nfk F k v
  | 0, _, _, _, _, _, _, _, _ => rfl
  | k + 1, u, v, hu, hv, lu, lv, h, g => by
    have hw : u ≠ [] := fun e => by rw [e] at lu; cases lu
    have hw' : v ≠ [] := fun e => by rw [e] at lv; cases lv
    have em : leastOf (frees F u) = leastOf (frees F v) := leastOf_congr (frees_eq hu hv h g)
    show leastOf (frees F u) :: nfk F k (u.filter fun x => x != leastOf (frees F u)) = leastOf (frees F v) :: nfk F k (v.filter fun x => x != leastOf (frees F v))
    have m1 := (least_mem (F := F) hu hw).1
    have m2 := (least_mem (F := F) hv hw').1
    rw [em] at m1 ⊢
    have l1 := filter_ne_length hu m1
    have l2 := filter_ne_length hv m2
    rw [nfk_congr k (u.filter fun x => x != leastOf (frees F v)) (v.filter fun x => x != leastOf (frees F v)) (nodup_filter _ hu) (nodup_filter _ hv) (by omega) (by omega) h.filter g.filter]
theorem nodup_len_le : ∀ {u v : List Nat}, u.Nodup → (∀ x ∈ u, x ∈ v) → u.length ≤ v.length
  | [], _, _, _ => Nat.zero_le _
  | x :: r, v, hu, h => by
    obtain ⟨h1, h2⟩ := List.nodup_cons.mp hu
    have hx := h x List.mem_cons_self
    obtain ⟨s, t, rfl⟩ := List.append_of_mem hx
    have := nodup_len_le (u := r) (v := s ++ t) h2 fun y hy => by
      have hy' := h y (List.mem_cons_of_mem _ hy)
      have ne : y ≠ x := fun e => h1 (e ▸ hy)
      rcases List.mem_append.mp hy' with q | q
      · exact List.mem_append_left _ q
      · exact List.mem_append_right _ ((List.mem_cons.mp q).resolve_left ne)
    rw [List.length_append] at this
    rw [List.length_cons, List.length_append, List.length_cons]
    omega
theorem nf_congr {u v : List Nat} (hu : u.Nodup) (hv : v.Nodup) (h : Rst F u v) (g : Rst F v u) : nf F u = nf F v := by
  have l : u.length = v.length := Nat.le_antisymm (nodup_len_le hu fun x hx => h.mem hx) (nodup_len_le hv fun x hx => g.mem hx)
  unfold nf
  rw [l]
  exact nfk_congr _ u v hu hv l rfl h g
theorem nf_idem (sym : ∀ a b, F a b = F b a) {w : List Nat} (hn : w.Nodup) : nf F (nf F w) = nf F w :=
  nf_congr (nf_nodup hn) hn (nf_sub sym hn) (sub_nf sym hn)

/-! ### kinds: least orders of unlike letters -/
structure Kd (F : Nat → Nat → Bool) (k : List Nat) : Prop where
  nd : k.Nodup
  lo : nf F k = k
theorem kd_nf (sym : ∀ a b, F a b = F b a) {w : List Nat} (hn : w.Nodup) : Kd F (nf F w) := ⟨nf_nodup hn, nf_idem sym hn⟩
theorem Kd.anti {K L : List Nat} (hK : Kd F K) (hL : Kd F L) (h : Rst F K L) (g : Rst F L K) : K = L := by
  rw [← hK.lo, ← hL.lo]
  exact nf_congr hK.nd hL.nd h g

/-! ### put behind -/
def jn (K L : List Nat) : List Nat := K ++ L.filter (fun x => !K.contains x)
theorem mem_rest {K L : List Nat} {x : Nat} : x ∈ L.filter (fun x => !K.contains x) ↔ x ∈ L ∧ x ∉ K := by
  rw [List.mem_filter]
  simp
theorem jn_nodup {K L : List Nat} (hK : K.Nodup) (hL : L.Nodup) : (jn K L).Nodup := by
  unfold jn
  refine List.nodup_append.mpr ⟨hK, nodup_filter _ hL, fun a ha b hb e => ?_⟩
  exact (mem_rest.mp hb).2 (e ▸ ha)
theorem jn_mem {K L : List Nat} {x : Nat} : x ∈ jn K L ↔ x ∈ K ∨ x ∈ L := by
  unfold jn
  rw [List.mem_append, mem_rest]
  by_cases h : x ∈ K <;> simp [h]
theorem sub_jn {K L : List Nat} : Rst F K (jn K L) := fun b hb => ⟨jn_mem.mpr (.inl hb), fun a _ => by unfold jn; rw [bef_app_in hb]⟩
theorem jn_bef {K L : List Nat} {a b : Nat} (hb : b ∉ K) : a ∈ bef (jn K L) b ↔ a ∈ K ∨ (a ∈ bef L b ∧ a ∉ K) := by
  unfold jn
  rw [bef_app_out hb, bef_filter (by simpa using hb), List.mem_append, mem_rest]
/-- putting L behind K gives L exactly if K restricts L -/
theorem beg_iff (sym : ∀ a b, F a b = F b a) {K L : List Nat} (hK : K.Nodup) (hL : Kd F L) : nf F (jn K L) = L ↔ Rst F K L := by
  have hn := jn_nodup hK hL.nd
  constructor
  · intro h
    have := sub_jn (F := F) (K := K) (L := L) |>.trans (sub_nf sym hn)
    rw [h] at this
    exact this
  · intro h
    have key : ∀ b ∈ L, ∀ a, F a b = true → (a ∈ bef (jn K L) b ↔ a ∈ bef L b) := fun b hb a hF => by
      by_cases hk : b ∈ K
      · rw [← (h b hk).2 a hF]
        unfold jn
        rw [bef_app_in hk]
      · rw [jn_bef hk]
        constructor
        · rintro (q | q)
          · have ne : a ≠ b := fun e => hk (e ▸ q)
            rcases bef_total (h.mem q) hb ne with z | z
            · exact z
            · have := ((h a q).2 b (by rw [sym]; exact hF)).mpr z
              exact absurd (bef_sub this) hk
          · exact q.1
        · intro q
          by_cases z : a ∈ K
          · exact .inl z
          · exact .inr ⟨q, z⟩
    have s1 : Rst F (jn K L) L := fun b hb => by
      have hb' : b ∈ L := (jn_mem.mp hb).elim (fun q => h.mem q) id
      exact ⟨hb', fun a hF => key b hb' a hF⟩
    have s2 : Rst F L (jn K L) := fun b hb => ⟨jn_mem.mpr (.inr hb), fun a hF => (key b hb a hF).symm⟩
    rw [nf_congr hn hL.nd s1 s2, hL.lo]

/-! ### the least bound -/
theorem bound_some (sym : ∀ a b, F a b = F b a) {K L M : List Nat} (h : Rst F K M) (g : Rst F L M) : Rst F (jn K L) M ∧ Rst F L (jn K L) := by
  have key : ∀ b ∈ jn K L, ∀ a, F a b = true → (a ∈ bef (jn K L) b ↔ a ∈ bef M b) := fun b hb a hF => by
    by_cases hk : b ∈ K
    · rw [← (h b hk).2 a hF]
      unfold jn
      rw [bef_app_in hk]
    · have hl : b ∈ L := (jn_mem.mp hb).resolve_left hk
      rw [jn_bef hk]
      constructor
      · rintro (q | q)
        · have ne : a ≠ b := fun e => hk (e ▸ q)
          rcases bef_total (h.mem q) (g.mem hl) ne with z | z
          · exact z
          · have := ((h a q).2 b (by rw [sym]; exact hF)).mpr z
            exact absurd (bef_sub this) hk
        · exact ((g b hl).2 a hF).mp q.1
      · intro q
        by_cases z : a ∈ K
        · exact .inl z
        · exact .inr ⟨((g b hl).2 a hF).mpr q, z⟩
  have s : Rst F (jn K L) M := fun b hb => ⟨(jn_mem.mp hb).elim (fun q => h.mem q) (fun q => g.mem q), fun a hF => key b hb a hF⟩
  exact ⟨s, fun b hb => ⟨jn_mem.mpr (.inr hb), fun a hF => ((g b hb).2 a hF).trans ((s b (jn_mem.mpr (.inr hb))).2 a hF).symm⟩⟩

/-! ### the greatest common beginning -/
/-- friends ahead, as the program lists them -/
def fa (F : Nat → Nat → Bool) (w : List Nat) (b : Nat) : List Nat := (bef w b).filter (fun a => F a b)
theorem mem_fa {w : List Nat} {a b : Nat} : a ∈ fa F w b ↔ a ∈ bef w b ∧ F a b = true := by unfold fa; rw [List.mem_filter]
/-- whether a letter joins what is found -/
def joins (F : Nat → Nat → Bool) (one other found : List Nat) (b : Nat) : Bool :=
  other.contains b && (decide (∀ a, a ∈ fa F one b → a ∈ fa F other b) && decide (∀ a, a ∈ fa F other b → a ∈ fa F one b)) && (fa F one b).all (fun a => found.contains a)
def cmA (F : Nat → Nat → Bool) (one other : List Nat) : List Nat → List Nat → List Nat
  | [], found => found
  | b :: r, found => cmA F one other r (if joins F one other found b then found ++ [b] else found)
def cm0 (F : Nat → Nat → Bool) (one other : List Nat) : List Nat := cmA F one other one []
def cm (F : Nat → Nat → Bool) (one other : List Nat) : List Nat := nf F (cm0 F one other)
theorem joins_iff {one other found : List Nat} {b : Nat} : joins F one other found b = true ↔ b ∈ other ∧ (∀ a, F a b = true → (a ∈ bef one b ↔ a ∈ bef other b)) ∧ ∀ a, F a b = true → a ∈ bef one b → a ∈ found := by
  unfold joins
  simp only [Bool.and_eq_true, List.contains_iff_mem, decide_eq_true_eq, List.all_eq_true]
  constructor
  · rintro ⟨⟨h1, h2, h3⟩, h4⟩
    refine ⟨h1, fun a hF => ⟨fun q => (mem_fa.mp (h2 a (mem_fa.mpr ⟨q, hF⟩))).1, fun q => (mem_fa.mp (h3 a (mem_fa.mpr ⟨q, hF⟩))).1⟩, fun a hF q => h4 a (mem_fa.mpr ⟨q, hF⟩)⟩
  · rintro ⟨h1, h2, h3⟩
    refine ⟨⟨h1, fun a q => ?_, fun a q => ?_⟩, fun a q => ?_⟩
    · obtain ⟨q1, q2⟩ := mem_fa.mp q
      exact mem_fa.mpr ⟨(h2 a q2).mp q1, q2⟩
    · obtain ⟨q1, q2⟩ := mem_fa.mp q
      exact mem_fa.mpr ⟨(h2 a q2).mpr q1, q2⟩
    · obtain ⟨q1, q2⟩ := mem_fa.mp q
      exact h3 a q2 q1
/-- the invariant of the walk along one: u is gone through -/
structure CmInv (F : Nat → Nat → Bool) (one other u found : List Nat) : Prop where
  sub : found.Sublist u
  low : ∀ b ∈ found, b ∈ other ∧ ∀ a, F a b = true → (a ∈ bef found b ↔ a ∈ bef one b) ∧ (a ∈ bef one b ↔ a ∈ bef other b)
  all : ∀ k, Rst F k one → Rst F k other → ∀ b ∈ k, b ∈ u → b ∈ found
theorem bef_split {u r : List Nat} {b : Nat} (hn : (u ++ b :: r).Nodup) : bef (u ++ b :: r) b = u := by
  have : b ∉ u := fun z => (List.nodup_append.mp hn).2.2 b z b List.mem_cons_self rfl
  rw [bef_app_out this, bef_self, List.append_nil]
theorem cm_step {one other u r found : List Nat} {b : Nat} (e : one = u ++ b :: r) (hn : one.Nodup) (I : CmInv F one other u found) :
    CmInv F one other (u ++ [b]) (if joins F one other found b = true then found ++ [b] else found) := by
  have eb : bef one b = u := by rw [e]; exact bef_split (e ▸ hn)
  have hbu : b ∉ u := fun z => by rw [← eb] at z; exact bef_not z
  have hbf : b ∉ found := fun z => hbu (I.sub.subset z)
  by_cases hj : joins F one other found b = true
  · rw [if_pos hj]
    obtain ⟨j1, j2, j3⟩ := joins_iff.mp hj
    refine ⟨I.sub.append (List.Sublist.refl _), fun c hc => ?_, fun k h1 h2 c hc hcu => ?_⟩
    · rcases List.mem_append.mp hc with q | q
      · obtain ⟨l1, l2⟩ := I.low c q
        refine ⟨l1, fun a hF => ?_⟩
        rw [bef_app_in q]
        exact l2 a hF
      · rw [List.mem_singleton] at q
        subst q
        refine ⟨j1, fun a hF => ⟨?_, j2 a hF⟩⟩
        rw [bef_app_out hbf, bef_self, List.append_nil]
        exact ⟨fun q => by rw [eb]; exact I.sub.subset q, fun q => j3 a hF q⟩
    · rcases List.mem_append.mp hcu with q | q
      · exact List.mem_append_left _ (I.all k h1 h2 c hc q)
      · exact List.mem_append_right _ q
  · rw [if_neg hj]
    refine ⟨I.sub.trans (List.sublist_append_left _ _), I.low, fun k h1 h2 c hc hcu => ?_⟩
    rcases List.mem_append.mp hcu with q | q
    · exact I.all k h1 h2 c hc q
    · rw [List.mem_singleton] at q
      subst q
      refine absurd (joins_iff.mpr ⟨h2.mem hc, fun a hF => (((h1 c hc).2 a hF).symm.trans ((h2 c hc).2 a hF)), fun a hF q => ?_⟩) hj
      have ha : a ∈ bef k c := ((h1 c hc).2 a hF).mpr q
      exact I.all k h1 h2 a (bef_sub ha) (by rw [← eb]; exact q)
theorem cm_inv {one other : List Nat} (hn : one.Nodup) : ∀ (r u found : List Nat), one = u ++ r → CmInv F one other u found → CmInv F one other one (cmA F one other r found)
  | [], u, found, e, I => by
    rw [List.append_nil] at e
    rw [e] at I ⊢
    exact I
  | b :: r, u, found, e, I => cm_inv hn r (u ++ [b]) _ (by rw [e, List.append_assoc]; rfl) (cm_step e hn I)
theorem cm0_inv {one other : List Nat} (hn : one.Nodup) : CmInv F one other one (cm0 F one other) :=
  cm_inv hn one [] [] rfl ⟨List.Sublist.refl _, fun _ h => (by cases h), fun _ _ _ _ _ h => (by cases h)⟩
theorem cm0_nodup {one other : List Nat} (hn : one.Nodup) : (cm0 F one other).Nodup := hn.sublist (cm0_inv (F := F) (other := other) hn).sub
theorem cm_kd (sym : ∀ a b, F a b = F b a) {one other : List Nat} (hn : one.Nodup) : Kd F (cm F one other) := kd_nf sym (cm0_nodup hn)
theorem cm_one (sym : ∀ a b, F a b = F b a) {one other : List Nat} (hn : one.Nodup) : Rst F (cm F one other) one :=
  (nf_sub sym (cm0_nodup hn)).trans fun b hb => ⟨(cm0_inv hn).sub.subset hb, fun a hF => (((cm0_inv hn).low b hb).2 a hF).1⟩
theorem cm_other (sym : ∀ a b, F a b = F b a) {one other : List Nat} (hn : one.Nodup) : Rst F (cm F one other) other :=
  (nf_sub sym (cm0_nodup hn)).trans fun b hb => ⟨((cm0_inv hn).low b hb).1, fun a hF => (((cm0_inv hn).low b hb).2 a hF).1.trans (((cm0_inv hn).low b hb).2 a hF).2⟩
theorem cm_great (sym : ∀ a b, F a b = F b a) {one other k : List Nat} (hn : one.Nodup) (h1 : Rst F k one) (h2 : Rst F k other) : Rst F k (cm F one other) := by
  refine Rst.trans (L := cm0 F one other) (fun b hb => ?_) (sub_nf sym (cm0_nodup hn))
  have hf := (cm0_inv hn).all k h1 h2 b hb (h1.mem hb)
  exact ⟨hf, fun a hF => ((h1 b hb).2 a hF).trans (((cm0_inv hn).low b hf).2 a hF).1.symm⟩
end
end Ow

/-! ### first stands -/
namespace Ow
def firsts (w : List Nat) : List Nat := ((List.range w.length).filter (fun i => !(w.take i).contains (w.getD i 0))).map (fun i => w.getD i 0)
theorem firsts_nil : firsts [] = [] := rfl
theorem filter_map_congr {n : Nat} {f g : Nat → Bool} {v u : Nat → Nat} (h : ∀ i, i < n → f i = g i ∧ v i = u i) : ((List.range n).filter f).map v = ((List.range n).filter g).map u := by
  have e1 : (List.range n).filter f = (List.range n).filter g := List.filter_congr fun i hi => (h i (List.mem_range.mp hi)).1
  rw [e1]
  exact List.map_congr_left fun i hi => (h i (List.mem_range.mp (List.mem_filter.mp hi).1)).2
theorem firsts_snoc (w : List Nat) (x : Nat) : firsts (w ++ [x]) = if w.contains x then firsts w else firsts w ++ [x] := by
  unfold firsts
  rw [List.length_append, List.length_singleton, List.range_succ, List.filter_append, List.map_append]
  have e : ((List.range w.length).filter (fun i => !((w ++ [x]).take i).contains ((w ++ [x]).getD i 0))).map (fun i => (w ++ [x]).getD i 0) =
      ((List.range w.length).filter (fun i => !(w.take i).contains (w.getD i 0))).map (fun i => w.getD i 0) := by
    refine filter_map_congr fun i hi => ?_
    have g : (w ++ [x]).getD i 0 = w.getD i 0 := by
      rw [List.getD_eq_getElem?_getD, List.getD_eq_getElem?_getD, List.getElem?_append_left hi]
    have t : (w ++ [x]).take i = w.take i := by rw [List.take_append_of_le_length (Nat.le_of_lt hi)]
    rw [g, t]
    exact ⟨rfl, rfl⟩
  rw [e]
  have gx : (w ++ [x]).getD w.length 0 = x := by
    rw [List.getD_eq_getElem?_getD, List.getElem?_append_right (Nat.le_refl _)]
    simp
  have tx : (w ++ [x]).take w.length = w := by rw [List.take_append_of_le_length (Nat.le_refl _), List.take_length]
  rw [List.filter_cons, gx, tx]
  by_cases h : w.contains x = true
  · rw [if_pos h, if_neg (by rw [h]; decide)]
    simp
  · rw [if_neg h, if_pos (by simp only [Bool.not_eq_true] at h; rw [h]; rfl)]
    simp [gx]
theorem snoc_ind {P : List Nat → Prop} (h0 : P []) (hs : ∀ w x, P w → P (w ++ [x])) (w : List Nat) : P w := by
  have : ∀ r : List Nat, P r.reverse := fun r => by
    induction r with
    | nil => exact h0
    | cons x r ih => rw [List.reverse_cons]; exact hs _ _ ih
  have z := this w.reverse
  rw [List.reverse_reverse] at z
  exact z
theorem firsts_mem {x : Nat} (w : List Nat) : x ∈ firsts w ↔ x ∈ w := by
  refine snoc_ind (P := fun w => x ∈ firsts w ↔ x ∈ w) Iff.rfl (fun w y ih => ?_) w
  rw [firsts_snoc]
  split
  · rename_i h
    rw [ih, List.mem_append, List.mem_singleton]
    refine ⟨.inl, fun q => q.elim id fun e => ?_⟩
    rw [e]
    simpa using h
  · rw [List.mem_append, List.mem_append, ih]
theorem firsts_nodup (w : List Nat) : (firsts w).Nodup := by
  refine snoc_ind (P := fun w => (firsts w).Nodup) List.nodup_nil (fun w y ih => ?_) w
  rw [firsts_snoc]
  split
  · exact ih
  · rename_i h
    refine List.nodup_append.mpr ⟨ih, by simp, fun a ha b hb e => ?_⟩
    rw [List.mem_singleton] at hb
    have : y ∈ w := (firsts_mem w).mp (by rw [← hb, ← e]; exact ha)
    exact h (by simpa using this)
theorem nodup_snoc {w : List Nat} {x : Nat} (h : (w ++ [x]).Nodup) : w.Nodup ∧ x ∉ w := by
  obtain ⟨h1, _, h3⟩ := List.nodup_append.mp h
  exact ⟨h1, fun q => h3 x q x (List.mem_singleton.mpr rfl) rfl⟩
theorem firsts_self (w : List Nat) : w.Nodup → firsts w = w := by
  refine snoc_ind (P := fun w => w.Nodup → firsts w = w) (fun _ => rfl) (fun w x ih h => ?_) w
  obtain ⟨h1, h2⟩ := nodup_snoc h
  rw [firsts_snoc, if_neg (by simpa using h2), ih h1]
theorem firsts_app {K : List Nat} (hK : K.Nodup) (L : List Nat) : L.Nodup → firsts (K ++ L) = jn K L := by
  refine snoc_ind (P := fun L => L.Nodup → firsts (K ++ L) = jn K L) (fun _ => ?_) (fun L x ih h => ?_) L
  · unfold jn
    rw [List.append_nil]
    show firsts K = K ++ []
    rw [List.append_nil, firsts_self K hK]
  · obtain ⟨h1, h2⟩ := nodup_snoc h
    rw [← List.append_assoc, firsts_snoc, ih h1]
    unfold jn
    rw [List.filter_append, ← List.append_assoc]
    by_cases hx : x ∈ K
    · rw [if_pos (by simp [hx])]
      simp [hx]
    · rw [if_neg (by simp [hx, h2])]
      simp [hx]

/-! ### the kind of a word; one kind begins another one -/
section
variable {F : Nat → Nat → Bool}
def kd (F : Nat → Nat → Bool) (w : List Nat) : List Nat := nf F (firsts w)
def beg (F : Nat → Nat → Bool) (K L : List Nat) : Bool := kd F (K ++ L) == L
theorem kd_kd (sym : ∀ a b, F a b = F b a) (w : List Nat) : Kd F (kd F w) := kd_nf sym (firsts_nodup w)
theorem kd_mem {w : List Nat} {x : Nat} : x ∈ kd F w ↔ x ∈ w := (nf_mem (firsts_nodup w)).trans (firsts_mem w)
theorem beg_sub (sym : ∀ a b, F a b = F b a) {K L : List Nat} (hK : Kd F K) (hL : Kd F L) : beg F K L = true ↔ Rst F K L := by
  unfold beg kd
  rw [firsts_app hK.nd L hL.nd, beq_iff_eq]
  exact beg_iff sym hK.nd hL

/-! ### the plain law -/
variable {W : List (List Nat)} {one other : List Nat}
theorem filter_one {α : Type} {W : List α} {p : α → Bool} {c : α} (hn : W.Nodup) (hc : c ∈ W) (h : ∀ k ∈ W, p k = true ↔ k = c) : W.filter p = [c] := by
  induction W with
  | nil => cases hc
  | cons x r ih =>
    obtain ⟨h1, h2⟩ := List.nodup_cons.mp hn
    rw [List.filter_cons]
    by_cases e : x = c
    · subst e
      rw [if_pos ((h x List.mem_cons_self).mpr rfl)]
      have : r.filter p = [] := List.filter_eq_nil_iff.mpr fun y hy q => h1 (by rw [← (h y (List.mem_cons_of_mem _ hy)).mp q]; exact hy)
      rw [this]
    · rw [if_neg fun q => e ((h x List.mem_cons_self).mp q)]
      exact ih h2 ((List.mem_cons.mp hc).resolve_left fun z => e z.symm) fun k hk => h k (List.mem_cons_of_mem _ hk)
theorem nil_iff {α : Type} {W : List α} {p : α → Bool} : W.filter (fun t => !p t) = [] ↔ ∀ t ∈ W, p t = true := by
  rw [List.filter_eq_nil_iff]
  exact ⟨fun h t ht => by simpa using h t ht, fun h t ht => by simpa using h t ht⟩
def both (F : Nat → Nat → Bool) (W : List (List Nat)) (one other : List Nat) : List (List Nat) := W.filter (fun k => beg F k one && beg F k other)
def top (F : Nat → Nat → Bool) (W : List (List Nat)) (one other : List Nat) : List (List Nat) :=
  (both F W one other).filter (fun k => ((both F W one other).filter (fun t => !beg F t k)).isEmpty)
def over (F : Nat → Nat → Bool) (W : List (List Nat)) (one other : List Nat) : List (List Nat) := W.filter (fun k => beg F one k && beg F other k)
def least (F : Nat → Nat → Bool) (W : List (List Nat)) (one other : List Nat) : List (List Nat) :=
  (over F W one other).filter (fun k => ((over F W one other).filter (fun t => !beg F k t)).isEmpty)
def joined (F : Nat → Nat → Bool) (one other : List Nat) : List Nat := nf F (jn one other)
structure Whole (F : Nat → Nat → Bool) (n : Nat) (W : List (List Nat)) : Prop where
  nd : W.Nodup
  iff : ∀ k, k ∈ W ↔ Kd F k ∧ ∀ x ∈ k, 97 ≤ x ∧ x < 97 + n
theorem Whole.mem_of {n : Nat} (hW : Whole F n W) {u : List Nat} (hu : u ∈ W) {k : List Nat} (hk : Kd F k) (h : ∀ x ∈ k, x ∈ u) : k ∈ W :=
  (hW.iff k).mpr ⟨hk, fun x hx => ((hW.iff u).mp hu).2 x (h x hx)⟩
theorem top_is (sym : ∀ a b, F a b = F b a) {n : Nat} (hW : Whole F n W) (h1 : one ∈ W) (h2 : other ∈ W) : top F W one other = [cm F one other] := by
  have k1 := ((hW.iff _).mp h1).1
  have k2 := ((hW.iff _).mp h2).1
  have kc : Kd F (cm F one other) := cm_kd sym k1.nd
  have c1 : Rst F (cm F one other) one := cm_one sym k1.nd
  have c2 : Rst F (cm F one other) other := cm_other sym k1.nd
  have hc : cm F one other ∈ W := hW.mem_of h1 kc fun x hx => c1.mem hx
  have mb : ∀ k, k ∈ both F W one other ↔ k ∈ W ∧ Rst F k one ∧ Rst F k other := fun k => by
    unfold both
    rw [List.mem_filter, Bool.and_eq_true]
    constructor
    · rintro ⟨a, b, c⟩
      have kk := ((hW.iff _).mp a).1
      exact ⟨a, (beg_sub sym kk k1).mp b, (beg_sub sym kk k2).mp c⟩
    · rintro ⟨a, b, c⟩
      have kk := ((hW.iff _).mp a).1
      exact ⟨a, (beg_sub sym kk k1).mpr b, (beg_sub sym kk k2).mpr c⟩
  unfold top
  refine filter_one (hW.nd.sublist List.filter_sublist) ((mb _).mpr ⟨hc, c1, c2⟩) fun k hk => ?_
  obtain ⟨a, b, c⟩ := (mb k).mp hk
  have kk := ((hW.iff _).mp a).1
  rw [List.isEmpty_iff, nil_iff]
  constructor
  · intro h
    have := h _ ((mb _).mpr ⟨hc, c1, c2⟩)
    exact (kc.anti kk ((beg_sub sym kc kk).mp this) (cm_great sym k1.nd b c)).symm
  · intro e t ht
    obtain ⟨a', b', c'⟩ := (mb t).mp ht
    have kt := ((hW.iff _).mp a').1
    rw [e]
    exact (beg_sub sym kt kc).mpr (cm_great sym k1.nd b' c')
theorem joined_kd (sym : ∀ a b, F a b = F b a) (k1 : one.Nodup) (k2 : other.Nodup) : Kd F (joined F one other) := kd_nf sym (jn_nodup k1 k2)
theorem mem_over (sym : ∀ a b, F a b = F b a) {n : Nat} (hW : Whole F n W) (h1 : one ∈ W) (h2 : other ∈ W) (k : List Nat) : k ∈ over F W one other ↔ k ∈ W ∧ Rst F one k ∧ Rst F other k := by
  have k1 := ((hW.iff _).mp h1).1
  have k2 := ((hW.iff _).mp h2).1
  unfold over
  rw [List.mem_filter, Bool.and_eq_true]
  constructor
  · rintro ⟨a, b, c⟩
    have kk := ((hW.iff _).mp a).1
    exact ⟨a, (beg_sub sym k1 kk).mp b, (beg_sub sym k2 kk).mp c⟩
  · rintro ⟨a, b, c⟩
    have kk := ((hW.iff _).mp a).1
    exact ⟨a, (beg_sub sym k1 kk).mpr b, (beg_sub sym k2 kk).mpr c⟩
/-- the bound's test -/
def bnd (F : Nat → Nat → Bool) (one other : List Nat) : Bool := joined F other (joined F one other) == joined F one other
theorem bnd_iff (sym : ∀ a b, F a b = F b a) (k1 : Kd F one) (k2 : Kd F other) : bnd F one other = true ↔ Rst F other (joined F one other) := by
  unfold bnd
  rw [beq_iff_eq]
  show nf F (jn other (joined F one other)) = joined F one other ↔ _
  exact beg_iff sym k2.nd (joined_kd sym k1.nd k2.nd)
theorem one_joined (sym : ∀ a b, F a b = F b a) (k1 : Kd F one) (k2 : Kd F other) : Rst F one (joined F one other) := sub_jn.trans (sub_nf sym (jn_nodup k1.nd k2.nd))
theorem over_some (sym : ∀ a b, F a b = F b a) {n : Nat} (hW : Whole F n W) (h1 : one ∈ W) (h2 : other ∈ W) {m : List Nat} (hm : m ∈ over F W one other) :
    Rst F (joined F one other) m ∧ Rst F other (joined F one other) := by
  have k1 := ((hW.iff _).mp h1).1
  have k2 := ((hW.iff _).mp h2).1
  obtain ⟨_, b, c⟩ := (mem_over sym hW h1 h2 m).mp hm
  obtain ⟨s1, s2⟩ := bound_some sym b c
  have hn := jn_nodup k1.nd k2.nd
  exact ⟨(nf_sub sym hn).trans s1, s2.trans (sub_nf sym hn)⟩
theorem joined_mem (sym : ∀ a b, F a b = F b a) {n : Nat} (hW : Whole F n W) (h1 : one ∈ W) (h2 : other ∈ W) : joined F one other ∈ W := by
  have k1 := ((hW.iff _).mp h1).1
  have k2 := ((hW.iff _).mp h2).1
  refine (hW.iff _).mpr ⟨joined_kd sym k1.nd k2.nd, fun x hx => ?_⟩
  have := (nf_mem (F := F) (jn_nodup k1.nd k2.nd)).mp hx
  rcases jn_mem.mp this with q | q
  · exact ((hW.iff _).mp h1).2 x q
  · exact ((hW.iff _).mp h2).2 x q
theorem over_yes (sym : ∀ a b, F a b = F b a) {n : Nat} (hW : Whole F n W) (h1 : one ∈ W) (h2 : other ∈ W) (hb : bnd F one other = true) :
    joined F one other ∈ over F W one other ∧ least F W one other = [joined F one other] := by
  have k1 := ((hW.iff _).mp h1).1
  have k2 := ((hW.iff _).mp h2).1
  have kj := joined_kd sym k1.nd k2.nd
  have hj : joined F one other ∈ over F W one other := (mem_over sym hW h1 h2 _).mpr ⟨joined_mem sym hW h1 h2, one_joined sym k1 k2, (bnd_iff sym k1 k2).mp hb⟩
  refine ⟨hj, ?_⟩
  unfold least
  refine filter_one (hW.nd.sublist List.filter_sublist) hj fun k hk => ?_
  have a := ((mem_over sym hW h1 h2 k).mp hk).1
  have kk := ((hW.iff _).mp a).1
  rw [List.isEmpty_iff, nil_iff]
  constructor
  · intro h
    exact (kj.anti kk (over_some sym hW h1 h2 hk).1 ((beg_sub sym kk kj).mp (h _ hj))).symm
  · intro e t ht
    have kt := ((hW.iff _).mp ((mem_over sym hW h1 h2 t).mp ht).1).1
    rw [e]
    exact (beg_sub sym kj kt).mpr (over_some sym hW h1 h2 ht).1
theorem over_no (sym : ∀ a b, F a b = F b a) {n : Nat} (hW : Whole F n W) (h1 : one ∈ W) (h2 : other ∈ W) (hb : bnd F one other = false) : over F W one other = [] ∧ least F W one other = [] := by
  have k1 := ((hW.iff _).mp h1).1
  have k2 := ((hW.iff _).mp h2).1
  have : over F W one other = [] := List.eq_nil_iff_forall_not_mem.mpr fun m hm => by
    have := (bnd_iff sym k1 k2).mpr (over_some sym hW h1 h2 hm).2
    rw [hb] at this
    cases this
  refine ⟨this, ?_⟩
  unfold least
  rw [this]
  rfl
/-- putting in both orders gives the same exactly if there is a bound -/
theorem commute_iff (sym : ∀ a b, F a b = F b a) {n : Nat} (hW : Whole F n W) (h1 : one ∈ W) (h2 : other ∈ W) : joined F one other = joined F other one ↔ bnd F one other = true := by
  have k1 := ((hW.iff _).mp h1).1
  have k2 := ((hW.iff _).mp h2).1
  constructor
  · intro e
    rw [bnd_iff sym k1 k2, e]
    exact one_joined sym k2 k1
  · intro hb
    have hr := (bnd_iff sym k1 k2).mp hb
    have s1 := one_joined sym k1 k2
    obtain ⟨t1, t2⟩ := bound_some sym hr s1
    have t3 : Rst F (joined F other one) (joined F one other) := (nf_sub sym (jn_nodup k2.nd k1.nd)).trans t1
    have t4 : Rst F one (joined F other one) := t2.trans (sub_nf sym (jn_nodup k2.nd k1.nd))
    obtain ⟨u1, _⟩ := bound_some sym t4 (one_joined sym k2 k1)
    exact (joined_kd sym k1.nd k2.nd).anti (joined_kd sym k2.nd k1.nd) ((nf_sub sym (jn_nodup k1.nd k2.nd)).trans u1) t3
end
end Ow

namespace Ow
open PySem PySem.Spec PyProof.Rows L2
def topS (i : Nat) : Stmt := PySem.Challenge.pw_oncewords_k11_whole_common_kinds.main.body.getD i (.Pass ⟨0, 0, 0, 0⟩)
abbrev s_whole : Stmt := topS 8
theorem sc_whole : FnScope ["value"] ["value"] (defScope s_whole) := ⟨rfl, rfl, rfl, by decide +kernel, rfl, by decide +kernel, by decide +kernel⟩
abbrev s_within : Stmt := topS 9
theorem sc_within : FnScope ["value", "low", "high"] ["value", "low", "high"] (defScope s_within) := ⟨rfl, rfl, rfl, by decide +kernel, rfl, by decide +kernel, by decide +kernel⟩
abbrev s_tuple_of : Stmt := topS 10
theorem sc_tuple_of : FnScope ["value", "low", "high"] ["value", "low", "high"] (defScope s_tuple_of) := ⟨rfl, rfl, rfl, by decide +kernel, rfl, by decide +kernel, by decide +kernel⟩
abbrev s_need_company : Stmt := topS 11
theorem sc_need_company : FnScope ["company", "index", "pair", "letter"] ["company"] (defScope s_need_company) := ⟨rfl, rfl, rfl, by decide +kernel, rfl, by decide +kernel, by decide +kernel⟩
abbrev s_is_set : Stmt := topS 12
theorem sc_is_set : FnScope ["company", "value", "sign", "at"] ["company", "value"] (defScope s_is_set) := ⟨rfl, rfl, rfl, by decide +kernel, rfl, by decide +kernel, by decide +kernel⟩
abbrev s_friends_of_all : Stmt := topS 13
theorem sc_friends_of_all : FnScope ["company", "found", "one", "other", "sign"] ["company"] (defScope s_friends_of_all) := ⟨rfl, rfl, rfl, by decide +kernel, rfl, by decide +kernel, by decide +kernel⟩
abbrev s_least_order : Stmt := topS 14
theorem sc_least_order : FnScope ["told", "order", "rest", "found", "sign", "ahead", "other"] ["told", "order"] (defScope s_least_order) := ⟨rfl, rfl, rfl, by decide +kernel, rfl, by decide +kernel, by decide +kernel⟩
abbrev s_is_kind : Stmt := topS 15
theorem sc_is_kind : FnScope ["company", "value"] ["company", "value"] (defScope s_is_kind) := ⟨rfl, rfl, rfl, by decide +kernel, rfl, by decide +kernel, by decide +kernel⟩
abbrev s_need_kind : Stmt := topS 16
theorem sc_need_kind : FnScope ["company", "kind"] ["company", "kind"] (defScope s_need_kind) := ⟨rfl, rfl, rfl, by decide +kernel, rfl, by decide +kernel, by decide +kernel⟩
abbrev s_joined : Stmt := topS 17
theorem sc_joined : FnScope ["told", "one", "other", "sign"] ["told", "one", "other"] (defScope s_joined) := ⟨rfl, rfl, rfl, by decide +kernel, rfl, by decide +kernel, by decide +kernel⟩
abbrev s_need_two : Stmt := topS 19
theorem sc_need_two : FnScope ["company", "one", "other"] ["company", "one", "other"] (defScope s_need_two) := ⟨rfl, rfl, rfl, by decide +kernel, rfl, by decide +kernel, by decide +kernel⟩
abbrev s_common_of : Stmt := topS 21
theorem sc_common_of : FnScope ["told", "one", "other", "found", "sign", "needs", "wants", "more"] ["told", "one", "other"] (defScope s_common_of) := ⟨rfl, rfl, rfl, by decide +kernel, rfl, by decide +kernel, by decide +kernel⟩
abbrev s_common : Stmt := topS 22
theorem sc_common : FnScope ["company", "one", "other", "told"] ["company", "one", "other"] (defScope s_common) := ⟨rfl, rfl, rfl, by decide +kernel, rfl, by decide +kernel, by decide +kernel⟩
abbrev s_bound_of : Stmt := topS 23
theorem sc_bound_of : FnScope ["told", "one", "other", "found"] ["told", "one", "other"] (defScope s_bound_of) := ⟨rfl, rfl, rfl, by decide +kernel, rfl, by decide +kernel, by decide +kernel⟩
abbrev s_bound : Stmt := topS 24
theorem sc_bound : FnScope ["company", "one", "other", "told", "found"] ["company", "one", "other"] (defScope s_bound) := ⟨rfl, rfl, rfl, by decide +kernel, rfl, by decide +kernel, by decide +kernel⟩
abbrev s_need_two2 : Stmt := topS 26
theorem sc_need_two2 : FnScope ["company", "one", "other"] ["company", "one", "other"] (defScope s_need_two2) := ⟨rfl, rfl, rfl, by decide +kernel, rfl, by decide +kernel, by decide +kernel⟩
abbrev s_put : Stmt := topS 28
theorem sc_put : FnScope ["company", "one", "other", "told"] ["company", "one", "other"] (defScope s_put) := ⟨rfl, rfl, rfl, by decide +kernel, rfl, by decide +kernel, by decide +kernel⟩
abbrev s_do_commute : Stmt := topS 29
theorem sc_do_commute : FnScope ["company", "one", "other", "told"] ["company", "one", "other"] (defScope s_do_commute) := ⟨rfl, rfl, rfl, by decide +kernel, rfl, by decide +kernel, by decide +kernel⟩
abbrev s_l_taken : Stmt := topS 31
theorem sc_l_taken : FnScope ["_law_row", "_law_many", "_law_found", "_law_cell"] ["_law_row", "_law_many"] (defScope s_l_taken) := ⟨rfl, rfl, rfl, by decide +kernel, rfl, by decide +kernel, by decide +kernel⟩
abbrev s_l_pairs : Stmt := topS 32
theorem sc_l_pairs : FnScope ["_law_many", "_law_found", "_law_one", "_law_other"] ["_law_many"] (defScope s_l_pairs) := ⟨rfl, rfl, rfl, by decide +kernel, rfl, by decide +kernel, by decide +kernel⟩
abbrev s_l_company : Stmt := topS 33
theorem sc_l_company : FnScope ["_law_row", "_law_most", "_law_many", "_law_ways", "_law_pairs_here", "_law_pair"] ["_law_row", "_law_most"] (defScope s_l_company) := ⟨rfl, rfl, rfl, by decide +kernel, rfl, by decide +kernel, by decide +kernel⟩
abbrev s_l_sets : Stmt := topS 34
theorem sc_l_sets : FnScope ["_law_many", "_law_found", "_law_place", "_law_told"] ["_law_many"] (defScope s_l_sets) := ⟨rfl, rfl, rfl, by decide +kernel, rfl, by decide +kernel, by decide +kernel⟩
abbrev s_l_lots : Stmt := topS 35
theorem sc_l_lots : FnScope ["_law_many", "_law_at", "_law_places"] ["_law_many"] (defScope s_l_lots) := ⟨rfl, rfl, rfl, by decide +kernel, rfl, by decide +kernel, by decide +kernel⟩
abbrev s_l_firsts : Stmt := topS 36
theorem sc_l_firsts : FnScope ["_law_word_here", "_law_at"] ["_law_word_here"] (defScope s_l_firsts) := ⟨rfl, rfl, rfl, by decide +kernel, rfl, by decide +kernel, by decide +kernel⟩
abbrev s_l_friend : Stmt := topS 37
theorem sc_l_friend : FnScope ["_law_company_here", "_law_one", "_law_other", "_law_signs"] ["_law_company_here", "_law_one", "_law_other"] (defScope s_l_friend) := ⟨rfl, rfl, rfl, by decide +kernel, rfl, by decide +kernel, by decide +kernel⟩
abbrev s_l_kind : Stmt := topS 38
theorem sc_l_kind : FnScope ["_law_company_here", "_law_word_here", "_law_rest", "_law_found", "_law_turn", "_law_free", "_law_at", "_law_sign"] ["_law_company_here", "_law_word_here"] (defScope s_l_kind) := ⟨rfl, rfl, rfl, by decide +kernel, rfl, by decide +kernel, by decide +kernel⟩
abbrev s_l_orders : Stmt := topS 39
theorem sc_l_orders : FnScope ["_law_letters", "_law_rows", "_law_turn", "_law_longer", "_law_told", "_law_sign"] ["_law_letters"] (defScope s_l_orders) := ⟨rfl, rfl, rfl, by decide +kernel, rfl, by decide +kernel, by decide +kernel⟩
abbrev s_l_kinds_of : Stmt := topS 40
theorem sc_l_kinds_of : FnScope ["_law_company_here", "_law_letters", "_law_order"] ["_law_company_here", "_law_letters"] (defScope s_l_kinds_of) := ⟨rfl, rfl, rfl, by decide +kernel, rfl, by decide +kernel, by decide +kernel⟩
abbrev s_l_kinds : Stmt := topS 41
theorem sc_l_kinds : FnScope ["_law_company_here", "_law_found", "_law_letters", "_law_kind_here", "_law_size"] ["_law_company_here"] (defScope s_l_kinds) := ⟨rfl, rfl, rfl, by decide +kernel, rfl, by decide +kernel, by decide +kernel⟩
abbrev s_l_word : Stmt := topS 42
theorem sc_l_word : FnScope ["_law_row", "_law_company_here", "_law_most", "_law_at"] ["_law_row", "_law_company_here", "_law_most"] (defScope s_l_word) := ⟨rfl, rfl, rfl, by decide +kernel, rfl, by decide +kernel, by decide +kernel⟩
abbrev s_l_drawn_kind : Stmt := topS 43
theorem sc_l_drawn_kind : FnScope ["_law_row", "_law_company_here"] ["_law_row", "_law_company_here"] (defScope s_l_drawn_kind) := ⟨rfl, rfl, rfl, by decide +kernel, rfl, by decide +kernel, by decide +kernel⟩
abbrev s_l_pick : Stmt := topS 44
theorem sc_l_pick : FnScope ["_law_row", "_law_things"] ["_law_row", "_law_things"] (defScope s_l_pick) := ⟨rfl, rfl, rfl, by decide +kernel, rfl, by decide +kernel, by decide +kernel⟩
abbrev s_l_begins : Stmt := topS 45
theorem sc_l_begins : FnScope ["_law_company_here", "_law_one", "_law_other"] ["_law_company_here", "_law_one", "_law_other"] (defScope s_l_begins) := ⟨rfl, rfl, rfl, by decide +kernel, rfl, by decide +kernel, by decide +kernel⟩
abbrev s_l_alike : Stmt := topS 46
theorem sc_l_alike : FnScope ["_law_found", "_law_due", "_law_k"] ["_law_found", "_law_due"] (defScope s_l_alike) := ⟨rfl, rfl, rfl, by decide +kernel, rfl, by decide +kernel, by decide +kernel⟩
abbrev s_law : Stmt := topS 47
theorem sc_law : FnScope ["_law_script", "_law_row", "_law_company_here", "_law_whole", "_law_one", "_law_other", "_law_both", "_law_top", "_law_over", "_law_least", "_law_found", "_law_kind_here", "_law_told"] ["_law_script"] (defScope s_law) := ⟨rfl, rfl, rfl, by decide +kernel, rfl, by decide +kernel, by decide +kernel⟩
end Ow

namespace Ow
open PySem PySem.Spec PyProof.Rows L2
/-! ### what the top has written -/
/-- a def of the text: x its name, gn the module's name for it -/
structure Df (K : PySem.W.Frag) (mg : Str → Option Value) (gn x : Str) (st : Stmt) (ps : List Str) where
  f : Addr
  d : FuncData
  F : Fun K x x st f d
  b : Binds K d ps []
  g : mg gn = some (.ref f)
  bt : ∀ (s : Shared) (us : List Value), us.length = ps.length → BindsTo s d ⟨us, []⟩ (ps.zip us)
def df_mk {K : PySem.W.Frag} {h : Heap} {mg : Str → Option Value} {gn x : Str} {st : Stmt} {ps : List Str} {f : Addr} {od an : Option Addr} {sl : Array (Option Value)} {oc kV dc pm cd ct : Value} (X : K.In h) (G : h.Ns mainGlobals mg)
    (a : PySem.W.nsIn K mainGlobals gn = some (some (.ref f))) (l : K.lookup f = some ⟨oc, od, .func (PySem.W.fnOf x x (defArgs st) (defBody st) (defScope st) .none kV dc pm an cd ct), sl⟩) (c : PySem.W.codeIn K cd x = true) (k : PySem.W.keepIn K (.ref f) = true)
    (hb : ∀ (kV doc pm : Value) (an : Option Addr) (cdv ct : Value) (us : List Value), us.length = ps.length → bindArgs (PySem.W.fnOf x x (defArgs st) (defBody st) (defScope st) .none kV doc pm an cdv ct) ⟨us, []⟩ = pure (ps.zip us)) : Df K mg gn x st ps :=
  ⟨f, _, fun_mk l c k, (fun_mk l c k).binds hb, PySem.W.mg_of X G a, fun _ _ hu => .of_eq (hb _ _ _ _ _ _ _ hu)⟩
/-- the class NoBound -/
structure NbF (K : PySem.W.Frag) (mg : Str → Option Value) where
  c : Addr
  g : mg "NoBound" = some (.ref c)
  x : PySem.W.excIn K c [.type "ValueError", .type "Exception", .type "BaseException", .type "object"] "ValueError.__new__" = true
  k : PySem.W.keepIn K (.ref c) = true
  b : PySem.W.subIn K (.ref c) (.type "BaseException") = some true
  t : PySem.W.typeIn K (.ref c) = some (.type "type")
  i : PySem.W.isClsIn K c = true
  s : PySem.W.subIn K (.ref c) (.ref c) = some true
def nb_mk {K : PySem.W.Frag} {h : Heap} {mg : Str → Option Value} {c : Addr} (X : K.In h) (G : h.Ns mainGlobals mg) (a : PySem.W.nsIn K mainGlobals "NoBound" = some (some (.ref c)))
    (x : PySem.W.excIn K c [.type "ValueError", .type "Exception", .type "BaseException", .type "object"] "ValueError.__new__" = true) (k : PySem.W.keepIn K (.ref c) = true) (b : PySem.W.subIn K (.ref c) (.type "BaseException") = some true)
    (t : PySem.W.typeIn K (.ref c) = some (.type "type")) (i : PySem.W.isClsIn K c = true) (s : PySem.W.subIn K (.ref c) (.ref c) = some true) : NbF K mg := ⟨c, PySem.W.mg_of X G a, x, k, b, t, i, s⟩
theorem alpha_mk {K : PySem.W.Frag} {h : Heap} {mg : Str → Option Value} {t : Tok} (X : K.In h) (G : h.Ns mainGlobals mg) (a : PySem.W.nsIn K mainGlobals "ALPHABET" = some (some (.str "abcdefg" t))) : ∃ t, mg "ALPHABET" = some (.str "abcdefg" t) := ⟨t, PySem.W.mg_of X G a⟩
theorem most_mk {K : PySem.W.Frag} {h : Heap} {mg : Str → Option Value} {t : Tok} (X : K.In h) (G : h.Ns mainGlobals mg) (a : PySem.W.nsIn K mainGlobals "MOST_LETTERS" = some (some (.int 7 t))) : ∃ t, mg "MOST_LETTERS" = some (.int 7 t) := ⟨t, PySem.W.mg_of X G a⟩
structure Txt (K : PySem.W.Frag) (mg : Str → Option Value) where
  whole : Df K mg "whole" "whole" s_whole ["value"]
  within : Df K mg "within" "within" s_within ["value", "low", "high"]
  tuple_of : Df K mg "tuple_of" "tuple_of" s_tuple_of ["value", "low", "high"]
  need_company : Df K mg "need_company" "need_company" s_need_company ["company"]
  is_set : Df K mg "is_set" "is_set" s_is_set ["company", "value"]
  friends_of_all : Df K mg "friends_of_all" "friends_of_all" s_friends_of_all ["company"]
  least_order : Df K mg "least_order" "least_order" s_least_order ["told", "order"]
  is_kind : Df K mg "is_kind" "is_kind" s_is_kind ["company", "value"]
  need_kind : Df K mg "need_kind" "need_kind" s_need_kind ["company", "kind"]
  joined : Df K mg "joined" "joined" s_joined ["told", "one", "other"]
  need_two : Df K mg "need_two_beginnings" "need_two" s_need_two ["company", "one", "other"]
  common_of : Df K mg "common_of" "common_of" s_common_of ["told", "one", "other"]
  common : Df K mg "common" "common" s_common ["company", "one", "other"]
  bound_of : Df K mg "bound_of" "bound_of" s_bound_of ["told", "one", "other"]
  bound : Df K mg "bound" "bound" s_bound ["company", "one", "other"]
  need_two2 : Df K mg "need_two_puts" "need_two" s_need_two2 ["company", "one", "other"]
  put : Df K mg "put" "put" s_put ["company", "one", "other"]
  do_commute : Df K mg "do_commute" "do_commute" s_do_commute ["company", "one", "other"]
  l_taken : Df K mg "_law_taken" "_law_taken" s_l_taken ["_law_row", "_law_many"]
  l_pairs : Df K mg "_law_pairs" "_law_pairs" s_l_pairs ["_law_many"]
  l_company : Df K mg "_law_company" "_law_company" s_l_company ["_law_row", "_law_most"]
  l_sets : Df K mg "_law_sets" "_law_sets" s_l_sets ["_law_many"]
  l_lots : Df K mg "_law_lots" "_law_lots" s_l_lots ["_law_many"]
  l_firsts : Df K mg "_law_firsts" "_law_firsts" s_l_firsts ["_law_word_here"]
  l_friend : Df K mg "_law_friend" "_law_friend" s_l_friend ["_law_company_here", "_law_one", "_law_other"]
  l_kind : Df K mg "_law_kind" "_law_kind" s_l_kind ["_law_company_here", "_law_word_here"]
  l_orders : Df K mg "_law_orders" "_law_orders" s_l_orders ["_law_letters"]
  l_kinds_of : Df K mg "_law_kinds_of" "_law_kinds_of" s_l_kinds_of ["_law_company_here", "_law_letters"]
  l_kinds : Df K mg "_law_kinds" "_law_kinds" s_l_kinds ["_law_company_here"]
  l_word : Df K mg "_law_word" "_law_word" s_l_word ["_law_row", "_law_company_here", "_law_most"]
  l_drawn_kind : Df K mg "_law_drawn_kind" "_law_drawn_kind" s_l_drawn_kind ["_law_row", "_law_company_here"]
  l_pick : Df K mg "_law_pick" "_law_pick" s_l_pick ["_law_row", "_law_things"]
  l_begins : Df K mg "_law_begins" "_law_begins" s_l_begins ["_law_company_here", "_law_one", "_law_other"]
  l_alike : Df K mg "_law_alike" "_law_alike" s_l_alike ["_law_found", "_law_due"]
  law : Df K mg "law" "law" s_law ["_law_script"]
  z_isinstance : mg "isinstance" = none
  z_int : mg "int" = none
  z_bool : mg "bool" = none
  z_tuple : mg "tuple" = none
  z_str : mg "str" = none
  z_list : mg "list" = none
  z_len : mg "len" = none
  z_all : mg "all" = none
  z_range : mg "range" = none
  z_enumerate : mg "enumerate" = none
  z_sorted : mg "sorted" = none
  z_min : mg "min" = none
  z_max : mg "max" = none
  z_set : mg "set" = none
  alpha : ∃ t, mg "ALPHABET" = some (.str "abcdefg" t)
  most : ∃ t, mg "MOST_LETTERS" = some (.int 7 t)
  nbf : NbF K mg
end Ow

namespace Ow
open PySem PySem.Spec PyProof.Rows L2 Evl
/-! ### texts as lists of signs -/
abbrev tx (l : List Nat) : Str := ⟨l.toArray⟩
theorem tx_len (l : List Nat) : (tx l).length = l.length := by show l.toArray.size = _; simp
theorem tx_list (l : List Nat) : (tx l).cps.toList = l := by simp
theorem tx_inj {a b : List Nat} (h : tx a = tx b) : a = b := by
  have := congrArg (fun s : Str => s.cps.toList) h
  simpa using this
theorem tx_app (a b : List Nat) : tx a ++ tx b = tx (a ++ b) := by
  show (⟨a.toArray ++ b.toArray⟩ : Str) = _
  simp
theorem tx_one (c : Nat) : (⟨#[c]⟩ : Str) = tx [c] := rfl
theorem tx_abc : (Str.ofString "abcdefg") = tx [97, 98, 99, 100, 101, 102, 103] := by decide +kernel
theorem tx_nil : (Str.ofString "") = tx [] := by decide +kernel
theorem tx_ab : (Str.ofString "ab") = tx [97, 98] := by decide +kernel
theorem vtx_dec (a b : List Nat) : decide (V.str (tx a) = V.str (tx b)) = (a == b) := by
  by_cases h : a = b
  · subst h; simp
  · have : V.str (tx a) ≠ V.str (tx b) := fun e => h (tx_inj (V.str.inj e))
    rw [decide_eq_false this]
    simp [h]
/-! ### what evaluates to a value of which P holds -/
def EvP (te : TE) (σ : L2.St) (H : Hp) (P : V → Hp → Prop) : Prop := ∀ H1, Ex H H1 → ∀ Q : VK, (∀ v H2, Ex H1 H2 → P v H2 → Q v H2) → te σ H1 Q
def SpP (sp : Sp) (vs : List V) (H : Hp) (P : V → Hp → Prop) : Prop := ∀ H1, Ex H H1 → ∀ Q : VK, (∀ v H2, Ex H1 H2 → P v H2 → Q v H2) → ∀ E : XK, sp vs H1 Q E
/-- a promise's end -/
def RetP (P : V → Hp → Prop) (H : Hp) (Q : VK) : Prop := ∀ v H2, Ex H H2 → P v H2 → Q v H2
section
variable {K : PySem.W.Frag} {σ : L2.St} {H H' : Hp} {ta tb tc te : TE} {t u : TT} {x y z v : V} {P P' : V → Hp → Prop} {D : Ends} {tu tw tz : TS} {sp : Sp} {E : XK}
theorem EvP.mono (e : Ex H H') (h : EvP te σ H P) : EvP te σ H' P := fun H1 a Q q => h H1 (e.trans a) Q q
theorem EvP.weak (h : EvP te σ H P) (w : ∀ v H2, Ex H H2 → P v H2 → P' v H2) : EvP te σ H P' := fun H1 a Q q => h H1 a Q fun v H2 e p => q v H2 e (w v H2 (a.trans e) p)
theorem Ev.toP (h : Ev te σ H v) : EvP te σ H (fun x _ => x = v) := fun H1 e Q q => h H1 e Q fun H2 e2 => q v H2 e2 rfl
theorem EvP.toV (h : EvP te σ H (fun x _ => x = v)) : Ev te σ H v := fun H1 e Q q => h H1 e Q fun w H2 e2 p => by subst p; exact q H2 e2
theorem SpP.mono {vs : List V} (e : Ex H H') (h : SpP sp vs H P) : SpP sp vs H' P := fun H1 a Q q => h H1 (e.trans a) Q q
theorem SpP.toV {vs : List V} (h : SpP sp vs H (fun x _ => x = v)) : SpV sp vs H v := fun H1 e Q q E => h H1 e Q (fun w H2 e2 p => by subst p; exact q H2 e2) E
theorem SpV.toP {vs : List V} (h : SpV sp vs H v) : SpP sp vs H (fun x _ => x = v) := fun H1 e Q q E => h H1 e Q (fun H2 e2 => q v H2 e2 rfl) E
theorem RetP.go {Q : VK} (k : RetP P H Q) (e : Ex H H') {v : V} {H2 : Hp} (e2 : Ex H' H2) (p : P v H2) : Q v H2 := k v H2 (e.trans e2) p
theorem evp_call {vs : List V} {ta : TA} (h : EvA ta σ H vs) (hs : SpP sp vs H P) : EvP (tCall sp [] E ta) σ H P := fun H1 e Q q =>
  h H1 e _ fun H2 e2 => by
    show sp (vs ++ []) H2 Q E
    rw [List.append_nil]
    exact hs H2 (e.trans e2) Q (fun v H3 e3 p => q v H3 (e2.trans e3) p) E
theorem ev_call0 {vs : List V} {ta : TA} (h : EvA ta σ H vs) (hs : SpV sp vs H v) : Ev (tCall sp [] E ta) σ H v := fun H1 e Q q =>
  h H1 e _ fun H2 e2 => by
    show sp (vs ++ []) H2 Q E
    rw [List.append_nil]
    exact hs H2 (e.trans e2) Q (fun H3 e3 => q H3 (e2.trans e3)) E
/-- the first argument is told by P1, the others follow -/
theorem evp_callP {P1 : V → Hp → Prop} {tr : TA} {vs : List V} (h1 : EvP ta σ H P1) (h2 : ∀ v H1, Ex H H1 → P1 v H1 → EvA tr σ H1 vs) (hs : ∀ v H1, Ex H H1 → P1 v H1 → SpP sp (v :: vs) H1 P) : EvP (tCall sp [] E (tCons ta tr)) σ H P := fun H1 e Q q =>
  h1 H1 e _ fun v H2 e2 p => h2 v H2 (e.trans e2) p H2 (Ex.refl _) _ fun H3 e3 => by
    show sp ((v :: vs) ++ []) H3 Q E
    rw [List.append_nil]
    exact hs v H2 (e.trans e2) p H3 e3 Q (fun w H4 e4 p' => q w H4 ((e2.trans e3).trans e4) p') E
theorem s_asgP {i : Nat} (h : EvP te σ H P) (k : ∀ v H1, Ex H H1 → P v H1 → D.nx (σ.set i (some v)) H1) : tAsg te (gName i) D σ H := h H (Ex.refl H) _ fun v H1 e p => k v H1 e p
theorem q_asgP {i : Nat} (h : EvP te σ H P) (k : ∀ v H1, Ex H H1 → P v H1 → tz D (σ.set i (some v)) H1) : tSeq (tAsg te (gName i)) tz D σ H := s_asgP (D := { D with nx := tz D }) h k
theorem s_retP (h : EvP te σ H P) (k : ∀ v H1, Ex H H1 → P v H1 → D.rt v H1) : tRet te D σ H := h H (Ex.refl H) _ fun v H1 e p => k v H1 e p
/-- isinstance(x, T) -/
theorem ev_isi {n : String} {ty : String} {b : Bool} (ha : Ev ta σ H x) (hb : Ev tb σ H (.ty n)) (hx : ∀ H1, Ex H H1 → TyX K H1 x (.type ty)) (hk : kitB ty n = some b) :
    Ev (tCB (rIsi K) (tCons ta (tCons tb tNil))) σ H (.bl b) :=
  ev_cb (ea_cons ha (ea_cons hb ea_nil)) fun H1 e Q q => ⟨x, .ty n, .type ty, .type n, b, rfl, .ty n, hx H1 e, kit_ty hk, q H1 (Ex.refl _)⟩
end
/-! ### a company in the heap -/
structure CoAt (H : Hp) (c : Addr) (n : Nat) (ps : List (Nat × Nat)) : Prop where
  ex : ∃ (q : Addr) (rs : List Addr), H c = some (.tup [.int (n : Int), .ref q]) ∧ H q = some (.tup (rs.map V.ref)) ∧ rs.length = ps.length ∧
    ∀ (i : Nat) (r : Addr) (p : Nat × Nat), rs[i]? = some r → ps[i]? = some p → H r = some (.tup [.int (p.1 : Int), .int (p.2 : Int)])
theorem CoAt.mono {H H' : Hp} {c : Addr} {n : Nat} {ps : List (Nat × Nat)} (h : CoAt H c n ps) (e : Ex H H') : CoAt H' c n ps := by
  obtain ⟨q, rs, h1, h2, h3, h4⟩ := h.ex
  exact ⟨q, rs, e _ _ h1, e _ _ h2, h3, fun i r p a b => e _ _ (h4 i r p a b)⟩
def lt2 (p q : Nat × Nat) : Prop := p.1 < q.1 ∨ (p.1 = q.1 ∧ p.2 < q.2)
structure Vc (n : Nat) (ps : List (Nat × Nat)) : Prop where
  lo : 1 ≤ n
  hi : n ≤ 4
  pr : ∀ p ∈ ps, p.1 < p.2 ∧ p.2 < n
  up : ps.Pairwise lt2
  few : ps.length ≤ 21
/-- friends, by signs -/
def fr (ps : List (Nat × Nat)) (a b : Nat) : Bool := decide (97 ≤ min a b) && ps.contains (min a b - 97, max a b - 97)
theorem fr_sym (ps : List (Nat × Nat)) (a b : Nat) : fr ps a b = fr ps b a := by
  unfold fr
  rw [Nat.min_comm, Nat.max_comm]
/-- letters of a company of n -/
def Lt (n : Nat) (w : List Nat) : Prop := ∀ x ∈ w, 97 ≤ x ∧ x < 97 + n
end Ow

namespace Ow
open PySem PySem.Spec PyProof.Rows L2 Evl
/-! ### the promises -/
/-- the dict of friends -/
structure Told (F : Nat → Nat → Bool) (n : Nat) (H : Hp) (d : Addr) : Prop where
  ex : ∃ kvs : List (Key × V), H d = some (.dK kvs) ∧ ∀ c, 97 ≤ c → c < 97 + n → ∃ l : List Nat, valV kvs (.inr (tx [c])) = some (.str (tx l)) ∧ l.length ≤ 100 ∧ ∀ x, x ∈ l ↔ F x c = true
theorem Told.mono {F : Nat → Nat → Bool} {n : Nat} {H H' : Hp} {d : Addr} (h : Told F n H d) (e : Ex H H') : Told F n H' d := by
  obtain ⟨kvs, h1, h2⟩ := h.ex
  exact ⟨kvs, e _ _ h1, h2⟩
/-- a word's letters: few, unlike, of the company -/
structure Wd (n : Nat) (w : List Nat) : Prop where
  nd : w.Nodup
  lt : Lt n w
theorem Lt.nodup_len {n : Nat} {w : List Nat} (h : Wd n w) : w.length ≤ n := by
  have : w.length ≤ ((List.range n).map (fun i => 97 + i)).length := nodup_len_le h.nd fun x hx => by
    obtain ⟨a, b⟩ := h.lt x hx
    exact List.mem_map.mpr ⟨x - 97, List.mem_range.mpr (by omega), by omega⟩
  simpa using this
structure KdL (F : Nat → Nat → Bool) (n : Nat) (k : List Nat) : Prop where
  kd : Kd F k
  lt : Lt n k
theorem KdL.wd {F : Nat → Nat → Bool} {n : Nat} {k : List Nat} (h : KdL F n k) : Wd n k := ⟨h.kd.nd, h.lt⟩
def spNeedCompany : Sp := fun vs H Q _ => ∃ c n ps, vs = [.ref c] ∧ CoAt H c n ps ∧ Vc n ps ∧ RetV .non H Q
def spIsSet : Sp := fun vs H Q _ => ∃ c n ps S, vs = [.ref c, .str (tx S)] ∧ CoAt H c n ps ∧ Vc n ps ∧ S.Pairwise (· < ·) ∧ Lt n S ∧ RetV (.bl true) H Q
def spFriends : Sp := fun vs H Q _ => ∃ c n ps, vs = [.ref c] ∧ CoAt H c n ps ∧ Vc n ps ∧ RetP (fun v H2 => ∃ d, v = .ref d ∧ Told (fr ps) n H2 d) H Q
def spLeast : Sp := fun vs H Q _ => ∃ d F n word, vs = [.ref d, .str (tx word)] ∧ Told F n H d ∧ n ≤ 4 ∧ Wd n word ∧ RetV (.str (tx (nf F word))) H Q
def spIsKind : Sp := fun vs H Q _ => ∃ c n ps k, vs = [.ref c, .str (tx k)] ∧ CoAt H c n ps ∧ Vc n ps ∧ KdL (fr ps) n k ∧ RetV (.bl true) H Q
def spNeedKind : Sp := fun vs H Q _ => ∃ c n ps k, vs = [.ref c, .str (tx k)] ∧ CoAt H c n ps ∧ Vc n ps ∧ KdL (fr ps) n k ∧ RetV .non H Q
def spJoined : Sp := fun vs H Q _ => ∃ d F n a b, vs = [.ref d, .str (tx a), .str (tx b)] ∧ Told F n H d ∧ n ≤ 4 ∧ Wd n a ∧ Wd n b ∧ RetV (.str (tx (joined F a b))) H Q
def spNeedTwo : Sp := fun vs H Q _ => ∃ c n ps a b, vs = [.ref c, .str (tx a), .str (tx b)] ∧ CoAt H c n ps ∧ Vc n ps ∧ KdL (fr ps) n a ∧ KdL (fr ps) n b ∧ RetP (fun v H2 => ∃ d, v = .ref d ∧ Told (fr ps) n H2 d) H Q
def spCommonOf : Sp := fun vs H Q _ => ∃ d F n a b, vs = [.ref d, .str (tx a), .str (tx b)] ∧ Told F n H d ∧ n ≤ 4 ∧ Wd n a ∧ Wd n b ∧ RetV (.str (tx (cm F a b))) H Q
def spCommon : Sp := fun vs H Q _ => ∃ c n ps a b, vs = [.ref c, .str (tx a), .str (tx b)] ∧ CoAt H c n ps ∧ Vc n ps ∧ KdL (fr ps) n a ∧ KdL (fr ps) n b ∧ RetV (.str (tx (cm (fr ps) a b))) H Q
def spBoundOf : Sp := fun vs H Q _ => ∃ d F n a b, vs = [.ref d, .str (tx a), .str (tx b)] ∧ Told F n H d ∧ n ≤ 4 ∧ Wd n a ∧ Wd n b ∧ RetV (if bnd F a b = true then .str (tx (joined F a b)) else .non) H Q
/-- C: the error's class -/
def spBound (C : Addr) : Sp := fun vs H Q E => ∃ c n ps a b, vs = [.ref c, .str (tx a), .str (tx b)] ∧ CoAt H c n ps ∧ Vc n ps ∧ KdL (fr ps) n a ∧ KdL (fr ps) n b ∧
  (bnd (fr ps) a b = true → RetV (.str (tx (joined (fr ps) a b))) H Q) ∧ (bnd (fr ps) a b = false → ∀ H2, Ex H H2 → E (.ref C) none H2)
def spPut : Sp := fun vs H Q _ => ∃ c n ps a b, vs = [.ref c, .str (tx a), .str (tx b)] ∧ CoAt H c n ps ∧ Vc n ps ∧ KdL (fr ps) n a ∧ KdL (fr ps) n b ∧ RetV (.str (tx (joined (fr ps) a b))) H Q
def spCommute : Sp := fun vs H Q _ => ∃ c n ps a b, vs = [.ref c, .str (tx a), .str (tx b)] ∧ CoAt H c n ps ∧ Vc n ps ∧ KdL (fr ps) n a ∧ KdL (fr ps) n b ∧ RetV (.bl (joined (fr ps) a b == joined (fr ps) b a)) H Q
/-! the law's own -/
def cut (r : Addr) (H : Hp) : Hp := fun b => if b = r then none else H b
/-- the row of draws at r -/
structure Row (K : PySem.W.Frag) (S : Addr × List Int) (r : Addr) (H : Hp) : Prop where
  sq : SqL K (cut r H) S.1 (S.2.map V.int)
  few : S.2.length ≤ 63
  ex : ∃ (i x y : Int), H r = some (.lst [.ref S.1, .int i, .int x, .int y]) ∧ 0 ≤ i ∧ 0 ≤ x ∧ x < 2147483647 ∧ 0 ≤ y
/-- all stands but the row -/
def ExR (r : Addr) (H H' : Hp) : Prop := ∀ b o, b ≠ r → H b = some o → H' b = some o
def RetR (K : PySem.W.Frag) (S : Addr × List Int) (r : Addr) (P : V → Hp → Prop) (H : Hp) (Q : VK) : Prop := ∀ v H2, ExR r H H2 → Row K S r H2 → P v H2 → Q v H2
def spTaken (K : PySem.W.Frag) : Sp := fun vs H Q _ => ∃ (S : Addr × List Int) (r : Addr) (m : Int), vs = [.ref r, .int m] ∧ Row K S r H ∧ 1 ≤ m ∧ m ≤ 1000000 ∧ RetR K S r (fun v _ => ∃ t : Nat, v = .int (t : Int) ∧ (t : Int) < m) H Q
/-- a list of pairs of places -/
def PrsAt (H : Hp) (xs : List V) (ps : List (Nat × Nat)) : Prop := ∃ rs : List Addr, xs = rs.map V.ref ∧ rs.length = ps.length ∧ ∀ (i : Nat) (r : Addr) (p : Nat × Nat), rs[i]? = some r → ps[i]? = some p → H r = some (.tup [.int (p.1 : Int), .int (p.2 : Int)])
def allPairs (n : Nat) : List (Nat × Nat) := (List.range n).flatMap fun i => (List.range (n - (i + 1))).map fun j => (i, i + 1 + j)
def spPairs : Sp := fun vs H Q _ => ∃ n : Nat, vs = [.int (n : Int)] ∧ n ≤ 4 ∧ RetP (fun v H2 => ∃ p xs, v = .ref p ∧ H2 p = some (.lst xs) ∧ PrsAt H2 xs (allPairs n)) H Q
def spCompany (K : PySem.W.Frag) : Sp := fun vs H Q _ => ∃ (S : Addr × List Int) (r : Addr), vs = [.ref r, .int 4] ∧ Row K S r H ∧ RetR K S r (fun v H2 => ∃ c n ps, v = .ref c ∧ c ≠ r ∧ CoAt (cut r H2) c n ps ∧ Vc n ps) H Q
/-- all ascending tuples of places -/
def sets : Nat → List (List Nat)
  | 0 => [[]]
  | n + 1 => sets n ++ (sets n).map (fun S => S ++ [n])
def TupsAt (H : Hp) (xs : List V) (Ss : List (List Nat)) : Prop := ∃ rs : List Addr, xs = rs.map V.ref ∧ rs.length = Ss.length ∧ ∀ (i : Nat) (r : Addr) (S : List Nat), rs[i]? = some r → Ss[i]? = some S → H r = some (.tup (S.map fun j => V.int ((j : Nat) : Int)))
def spSets : Sp := fun vs H Q _ => ∃ n : Nat, vs = [.int (n : Int)] ∧ n ≤ 4 ∧ RetP (fun v H2 => ∃ p xs, v = .ref p ∧ H2 p = some (.lst xs) ∧ TupsAt H2 xs (sets n)) H Q
def lots (n : Nat) : List (List Nat) := (sets n).map fun S => S.map fun j => 97 + j
/-- a list of texts -/
def txs (ws : List (List Nat)) : List V := ws.map fun l => V.str (tx l)
def spLots : Sp := fun vs H Q _ => ∃ n : Nat, vs = [.int (n : Int)] ∧ n ≤ 4 ∧ RetP (fun v H2 => ∃ p, v = .ref p ∧ H2 p = some (.lst (txs (lots n)))) H Q
def spFirsts : Sp := fun vs H Q _ => ∃ word : List Nat, vs = [.str (tx word)] ∧ word.length ≤ 1000 ∧ RetV (.str (tx (firsts word))) H Q
def spFriend : Sp := fun vs H Q _ => ∃ c n ps a b, vs = [.ref c, .str (tx [a]), .str (tx [b])] ∧ CoAt H c n ps ∧ Vc n ps ∧ Lt n [a, b] ∧ RetV (.bl (fr ps a b)) H Q
def spKind : Sp := fun vs H Q _ => ∃ c n ps word, vs = [.ref c, .str (tx word)] ∧ CoAt H c n ps ∧ Vc n ps ∧ Lt n word ∧ word.length ≤ 1000 ∧ RetV (.str (tx (kd (fr ps) word))) H Q
/-- the orders of letters -/
def Ords (S : List Nat) (rows : List (List Nat)) : Prop := ∀ o, o ∈ rows ↔ o.Nodup ∧ ∀ x, x ∈ o ↔ x ∈ S
def spOrders : Sp := fun vs H Q _ => ∃ S : List Nat, vs = [.str (tx S)] ∧ S.Pairwise (· < ·) ∧ S.length ≤ 4 ∧ RetP (fun v H2 => ∃ p rows, v = .ref p ∧ H2 p = some (.lst (txs rows)) ∧ rows.length ≤ 24 ∧ Ords S rows) H Q
/-- the kinds of just some letters -/
structure KindsOf (F : Nat → Nat → Bool) (S : List Nat) (ks : List (List Nat)) : Prop where
  nd : ks.Nodup
  iff : ∀ k, k ∈ ks ↔ Kd F k ∧ ∀ x, x ∈ k ↔ x ∈ S
  few : ks.length ≤ 24
def spKindsOf : Sp := fun vs H Q _ => ∃ c n ps S, vs = [.ref c, .str (tx S)] ∧ CoAt H c n ps ∧ Vc n ps ∧ S.Pairwise (· < ·) ∧ Lt n S ∧ RetP (fun v H2 => ∃ p ks, v = .ref p ∧ H2 p = some (.lst (txs ks)) ∧ KindsOf (fr ps) S ks) H Q
def spKinds : Sp := fun vs H Q _ => ∃ c n ps, vs = [.ref c] ∧ CoAt H c n ps ∧ Vc n ps ∧ RetP (fun v H2 => ∃ p W, v = .ref p ∧ H2 p = some (.lst (txs W)) ∧ Whole (fr ps) n W ∧ W.length ≤ 10000) H Q
def spWord (K : PySem.W.Frag) : Sp := fun vs H Q _ => ∃ (S : Addr × List Int) (r c : Addr) (n : Nat) (ps : List (Nat × Nat)) (m : Nat), vs = [.ref r, .ref c, .int (m : Int)] ∧ Row K S r H ∧ CoAt (cut r H) c n ps ∧ Vc n ps ∧ 1 ≤ m ∧ m ≤ 100 ∧
  RetR K S r (fun v _ => ∃ word, v = .str (tx word) ∧ Lt n word ∧ word.length ≤ 100) H Q
def spDrawn (K : PySem.W.Frag) : Sp := fun vs H Q _ => ∃ (S : Addr × List Int) (r c : Addr) (n : Nat) (ps : List (Nat × Nat)), vs = [.ref r, .ref c] ∧ Row K S r H ∧ CoAt (cut r H) c n ps ∧ Vc n ps ∧ RetR K S r (fun v _ => ∃ k, v = .str (tx k) ∧ KdL (fr ps) n k) H Q
def spPick (K : PySem.W.Frag) : Sp := fun vs H Q _ => ∃ (S : Addr × List Int) (r l : Addr) (xs : List V), vs = [.ref r, .ref l] ∧ Row K S r H ∧ cut r H l = some (.lst xs) ∧ xs ≠ [] ∧ xs.length ≤ 100000 ∧ RetR K S r (fun v _ => v ∈ xs) H Q
def spBegins : Sp := fun vs H Q _ => ∃ c n ps a b, vs = [.ref c, .str (tx a), .str (tx b)] ∧ CoAt H c n ps ∧ Vc n ps ∧ Wd n a ∧ Wd n b ∧ RetV (.bl (beg (fr ps) a b)) H Q
def spAlike : Sp := fun vs H Q _ => ∃ x y : V, vs = [x, y] ∧ ((∃ a b, x = .str a ∧ y = .str b) ∨ (x = .non ∧ y = .non) ∨ ∃ a b, x = .bl a ∧ y = .bl b) ∧ RetV (.bl (decide (x = y))) H Q
def spLaw (K : PySem.W.Frag) : Sp := fun vs H Q _ => ∃ (a : Addr) (ns : List Int), vs = [.ref a] ∧ SqL K H a (ns.map V.int) ∧ ns.length ≤ 63 ∧ ∀ H', Q (.bl true) H'
end Ow

namespace Ow
open PySem PySem.Spec PyProof.Rows L2 Evl
/-! ### what is walked, as a list of values of which I holds -/
def EvX (wi : TI) (σ : L2.St) (H : Hp) (I : List V → Hp → Prop) : Prop := ∀ H1, Ex H H1 → ∀ Rr : It → Hp → Prop,
  (∀ (J : It) (H2 : Hp) (xs : List V) (G : Hp → Prop), Ex H1 H2 → I xs H2 → Walk J xs.length G (YAt xs) → (∀ H3, Ex H2 H3 → G H3) → Rr J H2) → wi σ H1 Rr
section
variable {K : PySem.W.Frag} {σ : L2.St} {H H' : Hp} {ta tb tc te tl : TE} {t u tt : TT} {x y z v : V} {P P' : V → Hp → Prop} {D : Ends} {tu tw tz : TS} {wi : TI} {I : List V → Hp → Prop}
theorem EvX.mono (e : Ex H H') (h : EvX wi σ H I) : EvX wi σ H' I := fun H1 a Q q => h H1 (e.trans a) Q q
theorem evx_list {a : Addr} {xs : List V} (h : Ev tl σ H (.ref a)) (hx : SqL K H a xs) : EvX (iList K tl) σ H (fun ys _ => ys = xs) := fun H1 e Rr q =>
  h H1 e _ fun H2 e2 => ⟨a, rfl, ⟨xs, ex_l (e.trans e2) hx⟩, q _ H2 xs _ e2 rfl walk_list fun H3 e3 => ex_l ((e.trans e2).trans e3) hx⟩
theorem evx_listN {xs : List V} (h : EvL tl σ H xs) : EvX (iList K tl) σ H (fun ys _ => ys = xs) := fun H1 e Rr q =>
  h H1 e _ fun p H2 _ e2 hp => ⟨p, rfl, ⟨xs, sq_of hp⟩, q _ H2 xs _ e2 rfl walk_list fun H3 e3 => sq_of (e3 _ _ hp)⟩
theorem evx_listP (h : EvP tl σ H (fun v H2 => ∃ p xs, v = .ref p ∧ H2 p = some (.lst xs) ∧ I xs H2)) : EvX (iList K tl) σ H I := fun H1 e Rr q =>
  h H1 e _ fun v H2 e2 hp => by
    obtain ⟨p, xs, rfl, hp, hI⟩ := hp
    exact ⟨p, rfl, ⟨xs, sq_of hp⟩, q _ H2 xs _ e2 hI walk_list fun H3 e3 => sq_of (e3 _ _ hp)⟩
theorem evx_tup {a : Addr} {xs : List V} (h : Ev tl σ H (.ref a)) (hx : SqT K H a xs) : EvX (iTup K tl) σ H (fun ys _ => ys = xs) := fun H1 e Rr q =>
  h H1 e _ fun H2 e2 => ⟨a, rfl, ⟨xs, ex_t (e.trans e2) hx⟩, q _ H2 xs _ e2 rfl walk_tup fun H3 e3 => ex_t ((e.trans e2).trans e3) hx⟩
theorem walk_signs (l : List Nat) : Walk (Its (tx l)) (l.map fun c => V.str (tx [c])).length (fun _ => True) (YAt (l.map fun c => V.str (tx [c]))) := by
  have w := walk_str (z := tx l)
  have e : (l.map fun c => V.str (tx [c])).length = (tx l).cps.size := by simp
  rw [e]
  refine w.mono (fun _ h => h) fun i H x H' hi _ y => ?_
  obtain ⟨rfl, c, hc, rfl⟩ := y
  refine ⟨rfl, ?_⟩
  have : l[i]? = some c := by simpa using hc
  rw [List.getElem?_map, this]
  rfl
theorem evx_str {l : List Nat} (h : Ev te σ H (.str (tx l))) : EvX (iStr te) σ H (fun ys _ => ys = l.map fun c => V.str (tx [c])) := fun H1 e Rr q =>
  h H1 e _ fun H2 e2 => ⟨tx l, rfl, q _ H2 _ _ e2 rfl (walk_signs l) fun _ _ => trivial⟩
theorem walk_ints (lo : Int) (n : Nat) : Walk (Itr lo n) ((List.range n).map fun i => V.int (lo + ((i : Nat) : Int))).length (fun _ => True) (YAt ((List.range n).map fun i => V.int (lo + ((i : Nat) : Int)))) := by
  have e : ((List.range n).map fun i => V.int (lo + ((i : Nat) : Int))).length = n := by simp
  rw [e]
  refine walk_range.mono (fun _ h => h) fun i H x H' hi _ y => ?_
  obtain ⟨rfl, rfl⟩ := y
  refine ⟨rfl, ?_⟩
  rw [List.getElem?_map, List.getElem?_range hi]
  rfl
theorem evx_range1 {ta : TA} {n : Nat} (h : EvA ta σ H [.int (n : Int)]) (hn : n ≤ 100000) : EvX (iRng1 ta) σ H (fun ys _ => ys = (List.range n).map fun i => V.int ((i : Nat) : Int)) := fun H1 e Rr q =>
  h H1 e _ fun H2 e2 => ⟨(n : Int), rfl, by omega, by omega, by
    have w := walk_ints 0 n
    have z : (fun i : Nat => V.int ((0 : Int) + (i : Int))) = fun i : Nat => V.int (i : Int) := by funext i; rw [Int.zero_add]
    rw [z] at w
    exact q _ H2 _ _ e2 rfl w fun _ _ => trivial⟩
theorem evx_range2 {ta : TA} {lo hi : Nat} (h : EvA ta σ H [.int (lo : Int), .int (hi : Int)]) (hn : hi ≤ 100000) (hl : lo ≤ 100000) : EvX (iRng2 ta) σ H (fun ys _ => ys = (List.range (hi - lo)).map fun i => V.int (((lo + i : Nat) : Nat) : Int)) := fun H1 e Rr q =>
  h H1 e _ fun H2 e2 => ⟨(lo : Int), (hi : Int), rfl, ⟨by omega, by omega, by omega, by omega⟩, by
    have w := walk_ints (lo : Int) (hi - lo)
    have z : (fun i : Nat => V.int ((lo : Int) + (i : Int))) = fun i : Nat => V.int ((lo + i : Nat) : Int) := by funext i; rw [Int.natCast_add]
    rw [z] at w
    have z2 : ((hi : Int) - (lo : Int)).toNat = hi - lo := by omega
    rw [z2]
    exact q _ H2 _ _ e2 rfl w fun _ _ => trivial⟩

/-! ### comprehensions -/
/-- each item's element a value known by the item -/
theorem el_lcF {α : Type} {j : Nat} {vs : List Nat} (zs : List α) (g : α → V) (p : α → Bool) (f : α → V) (hI : EvX wi σ H (fun xs _ => xs = zs.map g)) (hz : zs.length ≤ 40000)
    (hw : ∀ x, wipe ((wipe σ vs).set j (some x)) vs = wipe σ vs)
    (ht : ∀ z H1, z ∈ zs → Ex H H1 → EvT tt ((wipe σ vs).set j (some (g z))) H1 (p z)) (he : ∀ z H1, z ∈ zs → p z = true → Ex H H1 → Ev te ((wipe σ vs).set j (some (g z))) H1 (f z)) :
    EvL (tLc wi (gName j) tt te vs) σ H ((zs.filter p).map f) := fun H1 e Q q => hI H1 e _ fun J H2 xs G e2 hxs w hG Dl hD => by
  subst hxs
  have e12 := e.trans e2
  refine lc_it w (fun i H' => Ex H2 H' ∧ H' Dl = some (.lst (((zs.take i).filter p).map f))) ⟨Ex.new hD, by rw [upd_same]; rfl⟩ (fun i H' _ pv => hG H' pv.1) (fun i x H' H'' hi pv y => ?_) fun H' pv => ?_
  · obtain ⟨rfl, hx⟩ := y
    rw [List.length_map] at hi
    have hzi : zs[i]? = some zs[i] := List.getElem?_eq_getElem hi
    rw [List.getElem?_map, hzi] at hx
    have ex := Option.some.inj hx
    subst ex
    have hm : zs[i] ∈ zs := List.getElem_mem hi
    have tk : zs.take (i + 1) = zs.take i ++ [zs[i]] := by rw [List.take_add_one, hzi]; rfl
    refine ⟨hw _, ?_⟩
    obtain ⟨p1, p2⟩ := pv
    refine ht _ H'' hm (e12.trans p1) H'' (Ex.refl _) _ fun H3 e3 => ?_
    have fl : (zs.take (i + 1)).filter p = (zs.take i).filter p ++ (if p zs[i] = true then [zs[i]] else []) := by
      rw [tk, List.filter_append, List.filter_cons]
      split <;> rfl
    cases hp : p zs[i] with
    | true =>
      refine iteT ?_
      refine he _ H3 hm hp ((e12.trans p1).trans e3) H3 (Ex.refl _) _ fun H4 e4 => ⟨_, e4 _ _ (e3 _ _ p2), ?_, Ex.mut ((p1.trans e3).trans e4) hD, ?_⟩
      · refine sz_lt ?_
        rw [List.length_map]
        have l1 := List.length_filter_le p (zs.take i)
        have l2 : (zs.take i).length ≤ zs.length := by rw [List.length_take]; omega
        omega
      · rw [upd_same, fl, if_pos hp, List.map_append]
        rfl
    | false =>
      refine iteF ⟨p1.trans e3, ?_⟩
      rw [fl, if_neg (by rw [hp]; exact Bool.false_ne_true), List.append_nil]
      exact e3 _ _ p2
  · rw [List.length_map, List.take_length] at pv
    exact q Dl H' (fresh_back e2 hD) (e2.trans pv.1) pv.2
/-- no test -/
theorem et_yes : EvT tYes σ H true := fun H1 _ Q q => q H1 (Ex.refl _)
/-- the elements told by a relation that stands -/
theorem evp_lc {j : Nat} {vs : List Nat} (R : List V → Nat → List V → Hp → Prop) (hI : EvX wi σ H I) (hw : ∀ x, wipe ((wipe σ vs).set j (some x)) vs = wipe σ vs)
    (hR : ∀ xs i acc H1 H2, Ex H1 H2 → R xs i acc H1 → R xs i acc H2) (hU : ∀ xs i acc H1 Dl l o, H1 Dl = some (.lst l) → R xs i acc H1 → R xs i acc (upd H1 Dl o))
    (h0 : ∀ xs H1, Ex H H1 → I xs H1 → R xs 0 [] H1)
    (hs : ∀ xs i x acc H0 H1, Ex H H0 → I xs H0 → Ex H0 H1 → xs[i]? = some x → R xs i acc H1 → acc.length ≤ i → i < 40000 ∧ ∃ b, EvT tt ((wipe σ vs).set j (some x)) H1 b ∧ (b = false → R xs (i + 1) acc H1) ∧ (b = true → EvP te ((wipe σ vs).set j (some x)) H1 fun y H2 => R xs (i + 1) (acc ++ [y]) H2)) :
    EvP (tLc wi (gName j) tt te vs) σ H (fun v H2 => ∃ p xs acc, v = .ref p ∧ H2 p = some (.lst acc) ∧ (∃ H0, Ex H H0 ∧ I xs H0 ∧ Ex H0 H2) ∧ R xs xs.length acc H2 ∧ acc.length ≤ xs.length) := fun H1 e Q q => hI H1 e _ fun J H2 xs G e2 hxs w hG Dl hD => by
  have e12 := e.trans e2
  refine lc_it w (fun i H' => Ex H2 H' ∧ ∃ acc, H' Dl = some (.lst acc) ∧ acc.length ≤ i ∧ R xs i acc H') ⟨Ex.new hD, [], upd_same, Nat.le_refl _, hR _ _ _ H2 _ (Ex.new hD) (h0 xs H2 e12 hxs)⟩ (fun i H' _ pv => hG H' pv.1) (fun i x H' H'' hi pv y => ?_) fun H' pv => ?_
  · obtain ⟨rfl, hx⟩ := y
    obtain ⟨p1, acc, p2, p3, p4⟩ := pv
    obtain ⟨hi4, b, tb, hf, ht⟩ := hs xs i x acc H2 H'' e12 hxs p1 hx p4 p3
    refine ⟨hw _, ?_⟩
    refine tb H'' (Ex.refl _) _ fun H3 e3 => ?_
    cases b with
    | true =>
      refine iteT ?_
      refine (ht rfl).mono e3 H3 (Ex.refl _) _ fun y H4 e4 hy => ⟨acc, e4 _ _ (e3 _ _ p2), sz_lt (by omega), Ex.mut ((p1.trans e3).trans e4) hD, _, upd_same, ?_, hU _ _ _ _ _ _ _ (e4 _ _ (e3 _ _ p2)) hy⟩
      rw [List.length_append, List.length_singleton]
      omega
    | false => exact iteF ⟨p1.trans e3, acc, e3 _ _ p2, by omega, hR _ _ _ _ _ e3 (hf rfl)⟩
  · obtain ⟨p1, acc, p2, p3, p4⟩ := pv
    exact q (.ref Dl) H' (e2.trans p1) ⟨Dl, xs, acc, rfl, p2, ⟨H2, e12, hxs, p1⟩, p4, p3⟩
/-! ### loops over what is walked -/
theorem s_forX {g : TG} (hI : EvX wi σ H I) (Pv : Hp → List V → Nat → L2.St → Hp → Prop) (hx : ∀ H0 xs i σ' H', Pv H0 xs i σ' H' → Ex H0 H')
    (h0 : ∀ xs H1, Ex H H1 → I xs H1 → Pv H1 xs 0 σ H1)
    (hs : ∀ H0 xs i x σ' H', Ex H H0 → I xs H0 → xs[i]? = some x → Pv H0 xs i σ' H' → g x σ' H' fun σ2 H2 => tu { D with nx := Pv H0 xs (i + 1), ct := Pv H0 xs (i + 1), bk := D.nx } σ2 H2)
    (hd : ∀ H0 xs σ' H', Ex H H0 → I xs H0 → Pv H0 xs xs.length σ' H' → D.nx σ' H') : tFor wi g tu D σ H := hI H (Ex.refl H) _ fun J H2 xs G e2 hxs w hG => by
  refine for_it w (Pv H2 xs) (h0 xs H2 e2 hxs) (fun i σ' H' _ pv => hG H' (hx _ _ _ _ _ pv)) (fun i x σ' H' H'' hi pv y => ?_) fun σ' H' pv => hd H2 xs σ' H' e2 hxs pv
  obtain ⟨rfl, hx'⟩ := y
  exact hs H2 xs i x σ' H'' e2 hxs hx' pv
theorem q_forX {g : TG} (hI : EvX wi σ H I) (Pv : Hp → List V → Nat → L2.St → Hp → Prop) (hx : ∀ H0 xs i σ' H', Pv H0 xs i σ' H' → Ex H0 H')
    (h0 : ∀ xs H1, Ex H H1 → I xs H1 → Pv H1 xs 0 σ H1)
    (hs : ∀ H0 xs i x σ' H', Ex H H0 → I xs H0 → xs[i]? = some x → Pv H0 xs i σ' H' → g x σ' H' fun σ2 H2 => tu { D with nx := Pv H0 xs (i + 1), ct := Pv H0 xs (i + 1), bk := tz D } σ2 H2)
    (hd : ∀ H0 xs σ' H', Ex H H0 → I xs H0 → Pv H0 xs xs.length σ' H' → tz D σ' H') : tSeq (tFor wi g tu) tz D σ H :=
  s_forX (D := { D with nx := tz D }) hI Pv hx h0 hs hd
end
end Ow
/-! ### texts -/
namespace Ow
open PySem PySem.Spec PyProof.Rows L2 Evl
theorem glued_nil : ∀ (ws : List (List Nat)) (a : List Nat), (ws.map tx).foldl (fun acc p => acc ++ (tx []).cps ++ p.cps) a.toArray = (a ++ ws.flatten).toArray
  | [], a => by simp
  | x :: r, a => by
    rw [List.map_cons, List.foldl_cons]
    have e : a.toArray ++ (tx []).cps ++ (tx x).cps = (a ++ x).toArray := by simp
    rw [e, glued_nil r (a ++ x), List.flatten_cons, List.append_assoc]
theorem join_nil (ws : List (List Nat)) : Txt.join (tx []) (ws.map tx) = tx ws.flatten := by
  show Builtin.Str.glued (tx []) (ws.map tx) = _
  unfold Builtin.Str.glued
  cases ws with
  | nil => rfl
  | cons x r =>
    have e := glued_nil r x
    rw [List.map_cons, List.drop_one, List.tail_cons, List.headD_cons]
    show (⟨_⟩ : Str) = _
    rw [show (tx x).cps = x.toArray from rfl, e, List.flatten_cons]
theorem txs_strs (ws : List (List Nat)) : txs ws = (ws.map tx).map V.str := by unfold txs; rw [List.map_map]; rfl
theorem map_len_tx (ws : List (List Nat)) : ((ws.map tx).map (·.length)) = ws.map (·.length) := by
  rw [List.map_map]
  exact List.map_congr_left fun l _ => tx_len l
section
variable {K : PySem.W.Frag} {σ : L2.St} {H H' : Hp} {ta tb tc te tl : TE} {a b : List Nat}
theorem ev_join {ws : List (List Nat)} (hs : Ev ta σ H (.str (tx []))) (hl : EvL te σ H (txs ws)) (hz : (ws.map (·.length)).sum ≤ 1000000) :
    Ev (tM1 (fun x xs H Q => ∃ a p, ∃ ys : List Str, x = .str a ∧ xs = [.ref p] ∧ (SqL K H p (ys.map V.str) ∨ SqT K H p (ys.map V.str)) ∧ (ys.map (·.length)).sum + ys.length * a.length ≤ 16777216 ∧ Q (.str (Txt.join a ys)) H) ta te) σ H (.str (tx ws.flatten)) := fun H1 e Q q =>
  hs H1 e _ fun H2 e2 => ⟨⟨_, rfl⟩, hl H2 (e.trans e2) _ fun p H3 _ e3 hp => ⟨tx [], p, ws.map tx, rfl, rfl, .inl (sq_of (by rw [hp, txs_strs])), by
    rw [map_len_tx]
    have : (tx []).length = 0 := rfl
    rw [this]
    omega, by rw [join_nil]; exact q H3 (e2.trans e3)⟩⟩
theorem ev_addS (ha : Ev ta σ H (.str (tx a))) (hb : Ev tb σ H (.str (tx b))) (hz : a.length + b.length ≤ 100000) :
    Ev (tOp (fun x y H Q => ∃ i j, x = .str i ∧ y = .str j ∧ i.length + j.length ≤ sizeLine ∧ Q (.str (i ++ j)) H) ta tb) σ H (.str (tx (a ++ b))) :=
  ev_op ha hb fun H1 _ Q q => ⟨tx a, tx b, rfl, rfl, by rw [tx_len, tx_len]; exact sz_of hz, by rw [tx_app]; exact q H1 (Ex.refl _)⟩
theorem mem_tx (c : Nat) (l : List Nat) : decide (c ∈ (tx l).cps.toList) = l.contains c := by
  rw [tx_list]
  by_cases h : c ∈ l <;> simp [h]
theorem ev_inS {c : Nat} (ha : Ev ta σ H (.str (tx [c]))) (hb : Ev tb σ H (.str (tx b))) :
    Ev (tOp (fun x y H Q => ∃ (c : Nat) (z : Str), x = .str ⟨#[c]⟩ ∧ y = .str z ∧ Q (.bl (decide (c ∈ z.cps.toList))) H) ta tb) σ H (.bl (b.contains c)) :=
  ev_op ha hb fun H1 _ Q q => ⟨c, tx b, rfl, rfl, by rw [mem_tx]; exact q H1 (Ex.refl _)⟩
theorem ev_notInS {c : Nat} (ha : Ev ta σ H (.str (tx [c]))) (hb : Ev tb σ H (.str (tx b))) :
    Ev (tOp (fun x y H Q => ∃ (c : Nat) (z : Str), x = .str ⟨#[c]⟩ ∧ y = .str z ∧ Q (.bl (!decide (c ∈ z.cps.toList))) H) ta tb) σ H (.bl (!b.contains c)) :=
  ev_op ha hb fun H1 _ Q q => ⟨c, tx b, rfl, rfl, by rw [mem_tx]; exact q H1 (Ex.refl _)⟩
theorem ev_eqS (ha : Ev ta σ H (.str (tx a))) (hb : Ev tb σ H (.str (tx b))) : Ev (tOp rEq ta tb) σ H (.bl (a == b)) := by
  have := ev_op ha hb (rv_eq (H := H) (x := .str (tx a)) (y := .str (tx b)) rfl)
  rw [vtx_dec] at this
  exact this
theorem txs_ones (l : List Nat) : txs (l.map fun c => [c]) = l.map fun c => V.str (tx [c]) := by unfold txs; rw [List.map_map]; rfl
theorem sum_ones (l : List Nat) : ((l.map fun c => [c]).map (·.length)).sum = l.length := by
  induction l with
  | nil => rfl
  | cons x r ih => rw [List.map_cons, List.map_cons, List.sum_cons, ih]; simp; omega
theorem flat_ones (l : List Nat) : (l.map fun c => [c]).flatten = l := by
  induction l with
  | nil => rfl
  | cons x r ih => rw [List.map_cons, List.flatten_cons, ih]; rfl
end
end Ow

namespace Ow
open PySem PySem.Spec PyProof.Rows L2 Evl
section
variable {P : Program} {w : World} {K : PySem.W.Frag} {mg : Str → Option Value} {base : Heap} (T : Txt K mg)
def spWhole : Sp := fun vs H Q _ => ∃ i : Int, vs = [.int i] ∧ RetV (.bl true) H Q
theorem ok_whole : FnOk P w K mg base CX0 1 T.whole.f T.whole.d ["value"] spWhole := by
  refine T.whole.F.ok sc_whole (fun vs H Q E h => ?_) (fun cdv A outer s H vs Q E hr h => ?_)
  · obtain ⟨i, rfl, _⟩ := h
    rfl
  · obtain ⟨i, rfl, k⟩ := h
    refine ⟨_, pss_one (ps_ret (pe_and (pe_callB call_isi (by rfl) T.z_isinstance (by decide +kernel) (pa_cons (pv 0) (pa_cons (pe_bltn (v := .ty "int") (by rfl) T.z_int (by decide +kernel) rfl) pa_nil)))
      (pe_one (pe_not (pe_callB call_isi (by rfl) T.z_isinstance (by decide +kernel) (pa_cons (pv 0) (pa_cons (pe_bltn (v := .ty "bool") (by rfl) T.z_bool (by decide +kernel) rfl) pa_nil))))))), ?_⟩
    refine s_ret (ev_andV (ev_isi (ev_var rfl) ev_c (fun _ _ => .base (.int i)) (by decide +kernel : kitB "int" "int" = some true)) fun _ =>
      ev_notV (ev_isi (ev_var rfl) ev_c (fun _ _ => .base (.int i)) (by decide +kernel : kitB "int" "bool" = some false))) k
def spWithin : Sp := fun vs H Q _ => ∃ i lo hi : Int, vs = [.int i, .int lo, .int hi] ∧ RetV (.bl (decide (lo ≤ i) && decide (i ≤ hi))) H Q
theorem ok_within : FnOk P w K mg base CX0 2 T.within.f T.within.d ["value", "low", "high"] spWithin := by
  refine T.within.F.ok sc_within (fun vs H Q E h => ?_) (fun cdv A outer s H vs Q E hr h => ?_)
  · obtain ⟨i, lo, hi, rfl, _⟩ := h
    rfl
  · obtain ⟨i, lo, hi, rfl, k⟩ := h
    refine ⟨_, pss_one (ps_ret (pe_and (pe_call (ok_whole T) hr (by rfl) T.whole.g T.whole.F.kp T.whole.b .nil pass0 (pa_cons (pv 0) pa_nil))
      (pe_one (pe_chain op_le op_le (pv 1) (pv 0) (pv 2))))), ?_⟩
    refine s_ret (ev_andV (b := decide (lo ≤ i) && decide (i ≤ hi)) (ev_call0 (ea_cons (ev_var rfl) ea_nil) fun H1 e Q q E => ⟨i, rfl, fun H2 e2 => q H2 e2⟩) fun _ => ?_) k
    intro H1 e Q q
    refine ⟨_, rfl, _, rfl, lo, i, rfl, rfl, _, rfl, ?_⟩
    by_cases c : lo ≤ i
    · rw [decide_eq_true c]
      refine iteT ⟨_, rfl, i, hi, rfl, rfl, ?_⟩
      have z := q H1 (Ex.refl _)
      rw [decide_eq_true c, Bool.true_and] at z
      exact z
    · rw [decide_eq_false c]
      refine iteF ?_
      have z := q H1 (Ex.refl _)
      rw [decide_eq_false c, Bool.false_and] at z
      exact z
def spTupleOf : Sp := fun vs H Q _ => ∃ (a : Addr) (xs : List V) (lo hi : Int), vs = [.ref a, .int lo, .int hi] ∧ H a = some (.tup xs) ∧ RetV (.bl (decide (lo ≤ xs.length) && decide ((xs.length : Int) ≤ hi))) H Q
theorem ok_tuple_of : FnOk P w K mg base CX0 1 T.tuple_of.f T.tuple_of.d ["value", "low", "high"] spTupleOf := by
  refine T.tuple_of.F.ok sc_tuple_of (fun vs H Q E h => ?_) (fun cdv A outer s H vs Q E hr h => ?_)
  · obtain ⟨a, xs, lo, hi, rfl, _⟩ := h
    rfl
  · obtain ⟨a, xs, lo, hi, rfl, ha, k⟩ := h
    refine ⟨_, pss_one (ps_ret (pe_and (pe_callB call_isi (by rfl) T.z_isinstance (by decide +kernel) (pa_cons (pv 0) (pa_cons (pe_bltn (v := .ty "tuple") (by rfl) T.z_tuple (by decide +kernel) rfl) pa_nil)))
      (pe_one (pe_chain op_le op_le (pv 1) (pe_callB call_len_seq (by rfl) T.z_len PySem.boot_len (pa_cons (pv 0) pa_nil)) (pv 2))))), ?_⟩
    refine s_ret (ev_andV (b := decide (lo ≤ xs.length) && decide ((xs.length : Int) ≤ hi)) (ev_isi (ev_var rfl) ev_c (fun H1 e => .base (.tup (e _ _ ha))) (by decide +kernel : kitB "tuple" "tuple" = some true)) fun _ => ?_) k
    intro H1 e Q q
    refine ⟨_, rfl, _, rfl, a, xs, rfl, .inr (.inl (.inl (e _ _ ha))), lo, (xs.length : Int), rfl, rfl, _, rfl, ?_⟩
    by_cases c : lo ≤ xs.length
    · rw [decide_eq_true c]
      refine iteT ⟨_, rfl, (xs.length : Int), hi, rfl, rfl, ?_⟩
      have z := q H1 (Ex.refl _)
      rw [decide_eq_true c, Bool.true_and] at z
      exact z
    · rw [decide_eq_false c]
      refine iteF ?_
      have z := q H1 (Ex.refl _)
      rw [decide_eq_false c, Bool.false_and] at z
      exact z
end
end Ow

namespace Ow
open PySem PySem.Spec PyProof.Rows L2 Evl
section
variable {P : Program} {w : World} {K : PySem.W.Frag} {mg : Str → Option Value} {base : Heap} (T : Txt K mg)
theorem ok_joined (GL : FnOk P w K mg base CX0 1 T.least_order.f T.least_order.d ["told", "order"] spLeast) : FnOk P w K mg base CX0 2 T.joined.f T.joined.d ["told", "one", "other"] spJoined := by
  refine T.joined.F.ok sc_joined (fun vs H Q E h => ?_) (fun cdv A outer s H vs Q E hr h => ?_)
  · obtain ⟨d, F, n, a, b, rfl, _⟩ := h
    rfl
  · obtain ⟨d, F, n, a, b, rfl, hT, hn, ha, hb, k⟩ := h
    refine ⟨_, pss_one (ps_ret (pe_call GL hr (by rfl) T.least_order.g T.least_order.F.kp T.least_order.b .nil pass0 (pa_cons (pv 0) (pa_cons
      (pe_op op_add_str (pv 1) (pe_join pe_str
        (pe_lc (own := [("sign", 3)]) (g := gName 3) rfl sc_joined.nd (pi_str (pv 2)) (blkOk_by (N := ["told", "one", "other", "sign"]) (sc := defScope s_joined) (by decide +kernel)) (fun _ _ _ _ _ => pg_name (i := 3) sc_joined.nd rfl (.inl rfl))
          (fun _ _ _ _ _ => pts_one (pt_cmpR op_notIn_sign (pv 3) (pv 1) rfl)) (fun _ _ _ _ _ => pv 3)))) pa_nil)))), ?_⟩
    have la := Lt.nodup_len ha
    have lb := Lt.nodup_len hb
    have hj : jn a b = a ++ ((b.filter fun c => !a.contains c).map fun c => [c]).flatten := by rw [flat_ones]; rfl
    have hl : (b.filter fun c => !a.contains c).length ≤ b.length := List.length_filter_le _ _
    refine s_ret (ev_call0 (vs := [.ref d, .str (tx (jn a b))]) (ea_cons (ev_var rfl) (ea_cons ?_ ea_nil)) fun H1 e Q q E => ?_) k
    · rw [hj]
      refine ev_addS (ev_var rfl) (ev_join (by rw [← tx_nil]; exact ev_c) ?_ ?_) ?_
      · rw [txs_ones]
        exact el_lcF b (fun c => V.str (tx [c])) (fun c => !a.contains c) (fun c => V.str (tx [c])) (evx_str (ev_var rfl)) (by omega) (fun x => rfl)
          (fun c H1 _ _ => et_test (ev_notInS (b := a) (ev_var rfl) (ev_var rfl))) (fun c H1 _ _ _ => ev_var rfl)
      · rw [sum_ones]
        omega
      · rw [flat_ones]
        omega
    · exact ⟨d, F, n, jn a b, rfl, hT.mono e, hn, ⟨jn_nodup ha.nd hb.nd, fun x hx => (jn_mem.mp hx).elim (ha.lt x) (hb.lt x)⟩, fun H2 e2 => q H2 e2⟩
end
end Ow

namespace Ow
open PySem PySem.Spec PyProof.Rows L2 Evl
section
variable {X : Cx} {C : Addr} {bmB : List Value} {B newId initId : String}
/-- X(), an own exception class -/
theorem pmk_none {x : Str} {p pos : Pos} (F : ExcBaseFacts B newId initId bmB) (q : PySem.W.excIn X.K C bmB newId = true) (gC : X.mg x = some (.ref C)) (kC : PySem.W.keepIn X.K (.ref C) = true) (r : Raises X (.ref C)) (hg : Gl X x)
    (hdb : (x == ("__debug__" : Str)) = false := by decide) : PMk X (.Call (.Name x p) [] [] pos) (fun _ H Q => Q (.ref C) none H) := by
  intro pins s σ H Q I h
  refine wpAny_Call_Name_kw (ld_glob I hg gC ?_ hdb)
  obtain ⟨bm, N, nm, qn, bs, hdct, sn, sub, ab, col, dd, k0, k1, k2, k3, k5, mN, hC, hN, hni, T⟩ := exc_obj I.kIn q
  obtain ⟨hp, g, dr, tk, os⟩ := s
  refine PySem.W.callWith_K0 I.kIn kC ?_
  exact wpAny_call_exc_subT F T hC hN hni (fun h' e hm => mk_of I hm r h (I.hok.gone hm.new)) (Nat.zero_le _)
end
section
variable {P : Program} {w : World} {K : PySem.W.Frag} {mg : Str → Option Value} {base : Heap} (T : Txt K mg)
theorem ok_need_kind (G : FnOk P w K mg base CX0 2 T.is_kind.f T.is_kind.d ["company", "value"] spIsKind) : FnOk P w K mg base CX0 3 T.need_kind.f T.need_kind.d ["company", "kind"] spNeedKind := by
  refine T.need_kind.F.ok sc_need_kind (fun vs H Q E h => ?_) (fun cdv A outer s H vs Q E hr h => ?_)
  · obtain ⟨c, n, ps, k, rfl, _⟩ := h
    rfl
  · obtain ⟨c, n, ps, k, rfl, hc, hv, hk, q⟩ := h
    refine ⟨_, pss_one (ps_if (pt_not (pt_val (pe_call G hr (by rfl) T.is_kind.g T.is_kind.F.kp T.is_kind.b .nil pass0 (pa_cons (pv 0) (pa_cons (pv 1) pa_nil))))) pss_never pss_nil), ?_⟩
    refine s_when (b := false) (et_not (a := true) (et_B (ev_call0 (ea_cons (ev_var rfl) (ea_cons (ev_var rfl) ea_nil)) fun H1 e Q q E => ⟨c, n, ps, k, rfl, hc.mono e, hv, hk, fun H2 e2 => q H2 e2⟩))) (fun z => nomatch z) fun _ H1 e => q H1 e
theorem needTwo_body {vs : List V} {H : Hp} {Q : VK} {E : XK} (h : spNeedTwo vs H Q E) : tSeq (tDrop (tCall spNeedCompany [] E0 (tCons (tVar 0) tNil))) (tSeq (tDrop (tCall spNeedKind [] E0 (tCons (tVar 0) (tCons (tVar 1) tNil))))
    (tSeq (tDrop (tCall spNeedKind [] E0 (tCons (tVar 0) (tCons (tVar 2) tNil)))) (tRet (tCall spFriends [] E0 (tCons (tVar 0) tNil))))) { nx := fun _ H' => Q .non H', rt := Q } (L2.start ["company", "one", "other"] vs) H := by
  obtain ⟨c, n, ps, a, b, rfl, hc, hv, ha, hb, q⟩ := h
  refine q_drop (ev_call0 (vs := [.ref c]) (ea_cons (ev_var rfl) ea_nil) fun H1 e Q q E => ⟨c, n, ps, rfl, hc.mono e, hv, fun H2 e2 => q H2 e2⟩) fun H1 e1 => ?_
  refine q_drop (ev_call0 (vs := [.ref c, .str (tx a)]) (ea_cons (ev_var rfl) (ea_cons (ev_var rfl) ea_nil)) fun H2 e Q q E => ⟨c, n, ps, a, rfl, hc.mono (e1.trans e), hv, ha, fun H2 e2 => q H2 e2⟩) fun H2 e2 => ?_
  refine q_drop (ev_call0 (vs := [.ref c, .str (tx b)]) (ea_cons (ev_var rfl) (ea_cons (ev_var rfl) ea_nil)) fun H3 e Q q E => ⟨c, n, ps, b, rfl, hc.mono ((e1.trans e2).trans e), hv, hb, fun H2 e2 => q H2 e2⟩) fun H3 e3 => ?_
  refine s_retP (evp_call (vs := [.ref c]) (ea_cons (ev_var rfl) ea_nil) fun H4 e Q q E => ⟨c, n, ps, rfl, hc.mono (((e1.trans e2).trans e3).trans e), hv, q⟩) fun v H4 e4 p => q v H4 (((e1.trans e2).trans e3).trans e4) p
variable (GC : FnOk P w K mg base CX0 3 T.need_company.f T.need_company.d ["company"] spNeedCompany) (GK : FnOk P w K mg base CX0 3 T.need_kind.f T.need_kind.d ["company", "kind"] spNeedKind)
  (GF : FnOk P w K mg base CX0 1 T.friends_of_all.f T.friends_of_all.d ["company"] spFriends)
include GC GK GF
theorem ok_need_two : FnOk P w K mg base CX0 4 T.need_two.f T.need_two.d ["company", "one", "other"] spNeedTwo := by
  refine T.need_two.F.ok sc_need_two (fun vs H Q E h => ?_) (fun cdv A outer s H vs Q E hr h => ?_)
  · obtain ⟨c, n, ps, a, b, rfl, _⟩ := h
    rfl
  · exact ⟨_, pss_cons (ps_expr (pe_call GC hr (by rfl) T.need_company.g T.need_company.F.kp T.need_company.b .nil pass0 (pa_cons (pv 0) pa_nil)))
      (pss_cons (ps_expr (pe_call GK hr (by rfl) T.need_kind.g T.need_kind.F.kp T.need_kind.b .nil pass0 (pa_cons (pv 0) (pa_cons (pv 1) pa_nil))))
      (pss_cons (ps_expr (pe_call GK hr (by rfl) T.need_kind.g T.need_kind.F.kp T.need_kind.b .nil pass0 (pa_cons (pv 0) (pa_cons (pv 2) pa_nil))))
      (pss_one (ps_ret (pe_call GF (hr.mono (by decide)) (by rfl) T.friends_of_all.g T.friends_of_all.F.kp T.friends_of_all.b .nil pass0 (pa_cons (pv 0) pa_nil)))))), needTwo_body h⟩
theorem ok_need_two2 : FnOk P w K mg base CX0 4 T.need_two2.f T.need_two2.d ["company", "one", "other"] spNeedTwo := by
  refine T.need_two2.F.ok sc_need_two2 (fun vs H Q E h => ?_) (fun cdv A outer s H vs Q E hr h => ?_)
  · obtain ⟨c, n, ps, a, b, rfl, _⟩ := h
    rfl
  · exact ⟨_, pss_cons (ps_expr (pe_call GC hr (by rfl) T.need_company.g T.need_company.F.kp T.need_company.b .nil pass0 (pa_cons (pv 0) pa_nil)))
      (pss_cons (ps_expr (pe_call GK hr (by rfl) T.need_kind.g T.need_kind.F.kp T.need_kind.b .nil pass0 (pa_cons (pv 0) (pa_cons (pv 1) pa_nil))))
      (pss_cons (ps_expr (pe_call GK hr (by rfl) T.need_kind.g T.need_kind.F.kp T.need_kind.b .nil pass0 (pa_cons (pv 0) (pa_cons (pv 2) pa_nil))))
      (pss_one (ps_ret (pe_call GF (hr.mono (by decide)) (by rfl) T.friends_of_all.g T.friends_of_all.F.kp T.friends_of_all.b .nil pass0 (pa_cons (pv 0) pa_nil)))))), needTwo_body h⟩
omit GC GK GF
/-- told = need_two(company, one, other) -/
theorem q_told {D : Ends} {c : Addr} {n : Nat} {ps : List (Nat × Nat)} {a b : List Nat} {σ : L2.St} {H : Hp} {E : XK} {i : Nat} {tz : TS} (hc : CoAt H c n ps) (hv : Vc n ps) (ha : KdL (fr ps) n a) (hb : KdL (fr ps) n b)
    (h0 : σ[0]? = some (some (.ref c))) (h1 : σ[1]? = some (some (.str (tx a)))) (h2 : σ[2]? = some (some (.str (tx b)))) (k : ∀ d H1, Ex H H1 → Told (fr ps) n H1 d → tz D (σ.set i (some (.ref d))) H1) :
    tSeq (tAsg (tCall spNeedTwo [] E (tCons (tVar 0) (tCons (tVar 1) (tCons (tVar 2) tNil)))) (gName i)) tz D σ H :=
  q_asgP (evp_call (vs := [.ref c, .str (tx a), .str (tx b)]) (ea_cons (ev_var h0) (ea_cons (ev_var h1) (ea_cons (ev_var h2) ea_nil))) fun H1 e Q q E => ⟨c, n, ps, a, b, rfl, hc.mono e, hv, ha, hb, q⟩) fun v H1 e p => by
    obtain ⟨d, rfl, hd⟩ := p
    exact k d H1 e hd
theorem spv_joined {d : Addr} {F : Nat → Nat → Bool} {n : Nat} {a b : List Nat} {H : Hp} (hT : Told F n H d) (hn : n ≤ 4) (ha : Wd n a) (hb : Wd n b) : SpV spJoined [.ref d, .str (tx a), .str (tx b)] H (.str (tx (joined F a b))) :=
  fun H1 e Q q E => ⟨d, F, n, a, b, rfl, hT.mono e, hn, ha, hb, fun H2 e2 => q H2 e2⟩
theorem wd_joined {F : Nat → Nat → Bool} {n : Nat} {a b : List Nat} (ha : Wd n a) (hb : Wd n b) : Wd n (joined F a b) :=
  ⟨nf_nodup (jn_nodup ha.nd hb.nd), fun x hx => (jn_mem.mp ((nf_mem (jn_nodup ha.nd hb.nd)).mp hx)).elim (ha.lt x) (hb.lt x)⟩
theorem ok_bound_of (GJ : FnOk P w K mg base CX0 2 T.joined.f T.joined.d ["told", "one", "other"] spJoined) : FnOk P w K mg base CX0 3 T.bound_of.f T.bound_of.d ["told", "one", "other"] spBoundOf := by
  refine T.bound_of.F.ok sc_bound_of (fun vs H Q E h => ?_) (fun cdv A outer s H vs Q E hr h => ?_)
  · obtain ⟨d, F, n, a, b, rfl, _⟩ := h
    rfl
  · obtain ⟨d, F, n, a, b, rfl, hT, hn, ha, hb, k⟩ := h
    refine ⟨_, pss_cons (ps_set (i := 3) sc_bound_of.nd rfl (.inl rfl) (pe_call GJ hr (by rfl) T.joined.g T.joined.F.kp T.joined.b .nil pass0 (pa_cons (pv 0) (pa_cons (pv 1) (pa_cons (pv 2) pa_nil)))))
      (pss_one (ps_ret (pe_ifExp (pt_cmpR op_eq (pe_call GJ hr (by rfl) T.joined.g T.joined.F.kp T.joined.b .nil pass0 (pa_cons (pv 0) (pa_cons (pv 2) (pa_cons (pv 3) pa_nil)))) (pv 3) (nomark _)) (pv 3) pe_non))), ?_⟩
    refine q_asg (ev_call0 (ea_cons (ev_var rfl) (ea_cons (ev_var rfl) (ea_cons (ev_var rfl) ea_nil))) (spv_joined hT hn ha hb)) fun H1 e1 => ?_
    refine s_ret (v := if bnd F a b = true then .str (tx (joined F a b)) else .non) (ev_if (b := bnd F a b) (et_test (ev_eqS (ev_call0 (ea_cons (ev_var rfl) (ea_cons (ev_var rfl) (ea_cons (ev_var rfl) ea_nil))) (spv_joined (hT.mono e1) hn hb (wd_joined ha hb))) (ev_var rfl))) (fun hb => ?_) fun hb => ?_) fun H2 e2 => k H2 (e1.trans e2)
    · rw [if_pos hb]
      exact ev_var rfl
    · rw [if_neg (by rw [hb]; exact Bool.false_ne_true)]
      exact ev_c
theorem ok_common (GN : FnOk P w K mg base CX0 4 T.need_two.f T.need_two.d ["company", "one", "other"] spNeedTwo) (GO : FnOk P w K mg base CX0 2 T.common_of.f T.common_of.d ["told", "one", "other"] spCommonOf) :
    FnOk P w K mg base CX0 5 T.common.f T.common.d ["company", "one", "other"] spCommon := by
  refine T.common.F.ok sc_common (fun vs H Q E h => ?_) (fun cdv A outer s H vs Q E hr h => ?_)
  · obtain ⟨c, n, ps, a, b, rfl, _⟩ := h
    rfl
  · obtain ⟨c, n, ps, a, b, rfl, hc, hv, ha, hb, k⟩ := h
    refine ⟨_, pss_cons (ps_set (i := 3) sc_common.nd rfl (.inl rfl) (pe_call GN hr (by rfl) T.need_two.g T.need_two.F.kp T.need_two.b .nil pass0 (pa_cons (pv 0) (pa_cons (pv 1) (pa_cons (pv 2) pa_nil)))))
      (pss_one (ps_ret (pe_call GO (hr.mono (by decide)) (by rfl) T.common_of.g T.common_of.F.kp T.common_of.b .nil pass0 (pa_cons (pv 3) (pa_cons (pv 1) (pa_cons (pv 2) pa_nil)))))), ?_⟩
    refine q_told hc hv ha hb rfl rfl rfl fun d H1 e1 hd => ?_
    exact s_ret (ev_call0 (ea_cons (ev_var rfl) (ea_cons (ev_var rfl) (ea_cons (ev_var rfl) ea_nil))) fun H2 e Q q E => ⟨d, fr ps, n, a, b, rfl, hd.mono e, hv.hi, ha.wd, hb.wd, fun H2 e2 => q H2 e2⟩) fun H2 e2 => k H2 (e1.trans e2)
theorem ok_put (GN : FnOk P w K mg base CX0 4 T.need_two2.f T.need_two2.d ["company", "one", "other"] spNeedTwo) (GJ : FnOk P w K mg base CX0 2 T.joined.f T.joined.d ["told", "one", "other"] spJoined) :
    FnOk P w K mg base CX0 5 T.put.f T.put.d ["company", "one", "other"] spPut := by
  refine T.put.F.ok sc_put (fun vs H Q E h => ?_) (fun cdv A outer s H vs Q E hr h => ?_)
  · obtain ⟨c, n, ps, a, b, rfl, _⟩ := h
    rfl
  · obtain ⟨c, n, ps, a, b, rfl, hc, hv, ha, hb, k⟩ := h
    refine ⟨_, pss_cons (ps_set (i := 3) sc_put.nd rfl (.inl rfl) (pe_call GN hr (by rfl) T.need_two2.g T.need_two2.F.kp T.need_two2.b .nil pass0 (pa_cons (pv 0) (pa_cons (pv 1) (pa_cons (pv 2) pa_nil)))))
      (pss_one (ps_ret (pe_call GJ (hr.mono (by decide)) (by rfl) T.joined.g T.joined.F.kp T.joined.b .nil pass0 (pa_cons (pv 3) (pa_cons (pv 1) (pa_cons (pv 2) pa_nil)))))), ?_⟩
    refine q_told hc hv ha hb rfl rfl rfl fun d H1 e1 hd => ?_
    exact s_ret (ev_call0 (ea_cons (ev_var rfl) (ea_cons (ev_var rfl) (ea_cons (ev_var rfl) ea_nil))) (spv_joined hd hv.hi ha.wd hb.wd)) fun H2 e2 => k H2 (e1.trans e2)
theorem ok_do_commute (GN : FnOk P w K mg base CX0 4 T.need_two2.f T.need_two2.d ["company", "one", "other"] spNeedTwo) (GJ : FnOk P w K mg base CX0 2 T.joined.f T.joined.d ["told", "one", "other"] spJoined) :
    FnOk P w K mg base CX0 5 T.do_commute.f T.do_commute.d ["company", "one", "other"] spCommute := by
  refine T.do_commute.F.ok sc_do_commute (fun vs H Q E h => ?_) (fun cdv A outer s H vs Q E hr h => ?_)
  · obtain ⟨c, n, ps, a, b, rfl, _⟩ := h
    rfl
  · obtain ⟨c, n, ps, a, b, rfl, hc, hv, ha, hb, k⟩ := h
    refine ⟨_, pss_cons (ps_set (i := 3) sc_do_commute.nd rfl (.inl rfl) (pe_call GN hr (by rfl) T.need_two2.g T.need_two2.F.kp T.need_two2.b .nil pass0 (pa_cons (pv 0) (pa_cons (pv 1) (pa_cons (pv 2) pa_nil)))))
      (pss_one (ps_ret (pe_cmpR op_eq (pe_call GJ (hr.mono (by decide)) (by rfl) T.joined.g T.joined.F.kp T.joined.b .nil pass0 (pa_cons (pv 3) (pa_cons (pv 1) (pa_cons (pv 2) pa_nil))))
        (pe_call GJ (hr.mono (by decide)) (by rfl) T.joined.g T.joined.F.kp T.joined.b .nil pass0 (pa_cons (pv 3) (pa_cons (pv 2) (pa_cons (pv 1) pa_nil)))) (nomark _)))), ?_⟩
    refine q_told hc hv ha hb rfl rfl rfl fun d H1 e1 hd => ?_
    exact s_ret (ev_eqS (ev_call0 (ea_cons (ev_var rfl) (ea_cons (ev_var rfl) (ea_cons (ev_var rfl) ea_nil))) (spv_joined hd hv.hi ha.wd hb.wd)) (ev_call0 (ea_cons (ev_var rfl) (ea_cons (ev_var rfl) (ea_cons (ev_var rfl) ea_nil))) (spv_joined hd hv.hi hb.wd ha.wd))) fun H2 e2 => k H2 (e1.trans e2)
theorem ok_bound (GN : FnOk P w K mg base CX0 4 T.need_two.f T.need_two.d ["company", "one", "other"] spNeedTwo) (GB : FnOk P w K mg base CX0 3 T.bound_of.f T.bound_of.d ["told", "one", "other"] spBoundOf) :
    FnOk P w K mg base (L2.CX P w) 5 T.bound.f T.bound.d ["company", "one", "other"] (spBound T.nbf.c) := by
  refine T.bound.F.okX sc_bound (fun vs H Q E h => ?_) (fun cdv A outer s H vs Q E hr h => ?_)
  · obtain ⟨c, n, ps, a, b, rfl, _⟩ := h
    rfl
  · obtain ⟨c, n, ps, a, b, rfl, hc, hv, ha, hb, k1, k2⟩ := h
    refine ⟨_, pss_cons (ps_set (i := 3) sc_bound.nd rfl (.inl rfl) (pe_call GN hr (by rfl) T.need_two.g T.need_two.F.kp T.need_two.b .nil pass0 (pa_cons (pv 0) (pa_cons (pv 1) (pa_cons (pv 2) pa_nil)))))
      (pss_cons (ps_set (i := 4) sc_bound.nd rfl (.inl rfl) (pe_call GB (hr.mono (by decide)) (by rfl) T.bound_of.g T.bound_of.F.kp T.bound_of.b .nil pass0 (pa_cons (pv 3) (pa_cons (pv 1) (pa_cons (pv 2) pa_nil)))))
      (pss_cons (ps_if (pt_cmpR op_isN (pv 4) pe_non (nomark _)) (pss_one (ps_raise rfl (takes_of rfl rfl rfl rfl) (pmk_none PySem.F.excBase_ValueError T.nbf.x T.nbf.g T.nbf.k (raises_own T.nbf.b T.nbf.t) (by exact rfl)))) pss_nil)
      (pss_one (ps_ret (pv 4))))), ?_⟩
    refine q_told hc hv ha hb rfl rfl rfl fun d H1 e1 hd => ?_
    refine q_asg (ev_call0 (ea_cons (ev_var rfl) (ea_cons (ev_var rfl) (ea_cons (ev_var rfl) ea_nil))) fun H2 e Q q E => ⟨d, fr ps, n, a, b, rfl, hd.mono e, hv.hi, ha.wd, hb.wd, fun H2 e2 => q H2 e2⟩) fun H2 e2 => ?_
    cases hb : bnd (fr ps) a b with
    | true =>
      refine q_when (b := false) (et_test (ev_op (x := .str (tx (joined (fr ps) a b))) (ev_var rfl) ev_c fun H3 _ Q q => ⟨rfl, q H3 (Ex.refl _)⟩)) (fun z => nomatch z) fun _ H3 e3 => ?_
      exact s_ret (ev_var rfl) fun H4 e4 => k1 hb H4 (((e1.trans e2).trans e3).trans e4)
    | false =>
      refine q_when (b := true) (et_test (ev_op (x := .non) (ev_var rfl) ev_c fun H3 _ Q q => ⟨rfl, q H3 (Ex.refl _)⟩)) (fun _ H3 e3 => ?_) fun z => nomatch z
      exact k2 hb H3 ((e1.trans e2).trans e3)
end
end Ow

namespace Ow
open PySem PySem.Spec PyProof.Rows L2 Evl
section
variable {K : PySem.W.Frag} {σ : L2.St} {H H' : Hp} {ta tb tc te tl : TE} {a b : List Nat}
theorem cutS_take (l : List Nat) (i : Nat) (h : i ≤ l.length) : cutS (tx l) none (some (i : Int)) = tx (l.take i) := by
  unfold cutS
  rw [HT.sIx_none, HT.sIx_nat, tx_len, tx_list, List.drop_zero, Nat.min_eq_left h, Nat.sub_zero]
theorem ev_slTake {to : TO} {l : List Nat} {i : Nat} (h : Ev te σ H (.str (tx l))) (hi : Ev ta σ H (.int (i : Int))) (hl : i ≤ l.length) (hz : l.length ≤ 100000) : Ev (tSl rSlS te tNoPart (tPart ta)) σ H (.str (tx (l.take i))) := fun H1 e Q q =>
  h H1 e _ fun H2 e2 => hi H2 (e.trans e2) _ fun H3 e3 => ⟨(i : Int), rfl, tx l, rfl, by rw [tx_len]; exact sz_of hz, by rw [cutS_take l i hl]; exact q H3 (e2.trans e3)⟩
theorem ev_ixTx {l : List Nat} {i : Nat} (h : Ev te σ H (.str (tx l))) (hi : Ev ta σ H (.int (i : Int))) (hl : i < l.length) (hz : l.length ≤ 100000) : Ev (tOp rIxS te ta) σ H (.str (tx [l.getD i 0])) :=
  ev_op h hi (rv_ixS (by rw [tx_len]; exact hz) (by rw [tx_list]; exact atI_nat (by rw [List.getD_eq_getElem?_getD, List.getElem?_eq_getElem hl]; rfl)))
theorem ev_lenS {l : List Nat} (h : Ev te σ H (.str (tx l))) (hz : l.length ≤ 100000) : Ev (tCB (fun xs H Q => ∃ z, xs = [.str z] ∧ z.length ≤ sizeLine ∧ Q (.int (z.length : Int)) H) (tCons te tNil)) σ H (.int (l.length : Int)) :=
  ev_cb (ea_cons h ea_nil) fun H1 _ Q q => ⟨tx l, rfl, by rw [tx_len]; exact sz_of hz, by rw [tx_len]; exact q H1 (Ex.refl _)⟩
end
section
variable {P : Program} {w : World} {K : PySem.W.Frag} {mg : Str → Option Value} {base : Heap} (T : Txt K mg)
theorem ok_firsts : FnOk P w K mg base CX0 1 T.l_firsts.f T.l_firsts.d ["_law_word_here"] spFirsts := by
  refine T.l_firsts.F.ok sc_l_firsts (fun vs H Q E h => ?_) (fun cdv A outer s H vs Q E hr h => ?_)
  · obtain ⟨l, rfl, _⟩ := h
    rfl
  · obtain ⟨l, rfl, hl, k⟩ := h
    refine ⟨_, pss_one (ps_ret (pe_join pe_str
        (pe_lc (own := [("_law_at", 1)]) (g := gName 1) rfl sc_l_firsts.nd (pi_range1 rfl T.z_range (pa_cons (pe_callB call_len_str (by rfl) T.z_len PySem.boot_len (pa_cons (pv 0) pa_nil)) pa_nil)) (blkOk_by (N := ["_law_word_here", "_law_at"]) (sc := defScope s_l_firsts) (by decide +kernel)) (fun _ _ _ _ _ => pg_name (i := 1) sc_l_firsts.nd rfl (.inl rfl))
          (fun _ _ _ _ _ => pts_one (pt_cmpR op_notIn_sign (pe_ix ix_str (pv 0) (pv 1) (fun _ _ => rfl)) (pe_slice sl_str (pv 0) po_none (po_some (pv 1))) rfl)) (fun _ _ _ _ _ => pe_ix ix_str (pv 0) (pv 1) (fun _ _ => rfl))))), ?_⟩
    have ef : firsts l = (((firsts l).map fun c => [c]).flatten) := (flat_ones _).symm
    refine s_ret (v := .str (tx (firsts l))) ?_ k
    rw [ef]
    refine ev_join (by rw [← tx_nil]; exact ev_c) ?_ ?_
    · have e2 : txs ((firsts l).map fun c => [c]) = ((List.range l.length).filter (fun i => !(l.take i).contains (l.getD i 0))).map (fun i => V.str (tx [l.getD i 0])) := by
        rw [txs_ones]
        unfold firsts
        rw [List.map_map]
        rfl
      rw [e2]
      refine el_lcF (List.range l.length) (fun i => V.int ((i : Nat) : Int)) (fun i => !(l.take i).contains (l.getD i 0)) (fun i => V.str (tx [l.getD i 0]))
        (evx_range1 (n := l.length) (ea_cons (ev_lenS (ev_var rfl) (by omega)) ea_nil) (by omega)) (by rw [List.length_range]; omega) (fun x => rfl) (fun i H1 hi _ => ?_) (fun i H1 hi _ _ => ?_)
      · have hi := List.mem_range.mp hi
        exact et_test (ev_notInS (c := l.getD i 0) (b := l.take i) (ev_ixTx (ev_var rfl) (ev_var rfl) hi (by omega)) (ev_slTake (to := tNoPart) (ev_var rfl) (ev_var rfl) (by omega) (by omega)))
      · have hi := List.mem_range.mp hi
        exact ev_ixTx (ev_var rfl) (ev_var rfl) hi (by omega)
    · rw [sum_ones]
      have : (firsts l).length ≤ l.length := nodup_len_le (firsts_nodup l) fun x hx => (firsts_mem l).mp hx
      omega
theorem ok_begins (G : FnOk P w K mg base CX0 2 T.l_kind.f T.l_kind.d ["_law_company_here", "_law_word_here"] spKind) : FnOk P w K mg base CX0 3 T.l_begins.f T.l_begins.d ["_law_company_here", "_law_one", "_law_other"] spBegins := by
  refine T.l_begins.F.ok sc_l_begins (fun vs H Q E h => ?_) (fun cdv A outer s H vs Q E hr h => ?_)
  · obtain ⟨c, n, ps, a, b, rfl, _⟩ := h
    rfl
  · obtain ⟨c, n, ps, a, b, rfl, hc, hv, ha, hb, k⟩ := h
    refine ⟨_, pss_one (ps_ret (pe_cmpR op_eq (pe_call G hr (by rfl) T.l_kind.g T.l_kind.F.kp T.l_kind.b .nil pass0 (pa_cons (pv 0) (pa_cons (pe_op op_add_str (pv 1) (pv 2)) pa_nil))) (pv 2) (nomark _))), ?_⟩
    have la := Lt.nodup_len ha
    have lb := Lt.nodup_len hb
    have := hv.hi
    exact s_ret (ev_eqS (ev_call0 (vs := [.ref c, .str (tx (a ++ b))]) (ea_cons (ev_var rfl) (ea_cons (ev_addS (ev_var rfl) (ev_var rfl) (by omega)) ea_nil)) fun H1 e Q q E =>
      ⟨c, n, ps, a ++ b, rfl, hc.mono e, hv, fun x hx => (List.mem_append.mp hx).elim (ha.lt x) (hb.lt x), by rw [List.length_append]; omega, fun H2 e2 => q H2 e2⟩) (ev_var rfl)) k
/-- isinstance(x, (tuple, list)) of what is neither -/
theorem ev_isiTL {σ : L2.St} {H : Hp} {ta tb : TE} {x : V} {ty : String} (ha : Ev ta σ H x) (hb : EvU tb σ H [.ty "tuple", .ty "list"]) (hx : ∀ H1, Ex H H1 → TyX K H1 x (.type ty)) (h1 : kitB ty "tuple" = some false) (h2 : kitB ty "list" = some false) :
    Ev (tCB (rIsiT K) (tCons ta (tCons tb tNil))) σ H (.bl false) := fun H1 e Q q =>
  ha H1 e _ fun H2 e2 => hb H2 (e.trans e2) _ fun p H3 _ e3 hp => ⟨x, p, [.ty "tuple", .ty "list"], .type ty, [.type "tuple", .type "list"], false, rfl, hp, .cons (.ty _) (.cons (.ty _) .nil), hx H3 ((e.trans e2).trans e3),
    kitAny_cons (kit_ty h1) (fun _ => kitAny_cons (kit_ty h2) (fun _ => kitAny_nil) (fun z => nomatch z)) (fun z => nomatch z), q H3 (e2.trans e3)⟩
theorem ok_alike : FnOk P w K mg base CX0 1 T.l_alike.f T.l_alike.d ["_law_found", "_law_due"] spAlike := by
  refine T.l_alike.F.ok sc_l_alike (fun vs H Q E h => ?_) (fun cdv A outer s H vs Q E hr h => ?_)
  · obtain ⟨x, y, rfl, _⟩ := h
    rfl
  · obtain ⟨x, y, rfl, hxy, k⟩ := h
    refine ⟨_, pss_cons (ps_if (pt_val (pe_callB call_isiT (by rfl) T.z_isinstance (by decide +kernel) (pa_cons (pv 1) (pa_cons (pe_tup (pa_cons (pe_bltn (v := .ty "tuple") (by rfl) T.z_tuple (by decide +kernel) rfl) (pa_cons (pe_bltn (v := .ty "list") (by rfl) T.z_list (by decide +kernel) rfl) pa_nil))) pa_nil)))) pss_never pss_nil)
      (pss_cons (ps_if (PW.pt (pw_or (pt_cmpR op_isN (pv 1) pe_non (nomark _)) (pw_or1 (pt_val (pe_callB call_isi (by rfl) T.z_isinstance (by decide +kernel) (pa_cons (pv 1) (pa_cons (pe_bltn (v := .ty "str") (by rfl) T.z_str (by decide +kernel) rfl) pa_nil)))))))
        (pss_one (ps_ret (pe_and (pe_cmpR op_eq (pv 0) (pv 1) (nomark _)) (pe_one (pe_cmpR op_eq (pe_callB call_isi (by rfl) T.z_isinstance (by decide +kernel) (pa_cons (pv 0) (pa_cons (pe_bltn (v := .ty "str") (by rfl) T.z_str (by decide +kernel) rfl) pa_nil)))
          (pe_callB call_isi (by rfl) T.z_isinstance (by decide +kernel) (pa_cons (pv 1) (pa_cons (pe_bltn (v := .ty "str") (by rfl) T.z_str (by decide +kernel) rfl) pa_nil))) (nomark _)))))) pss_nil)
      (pss_one (ps_ret (pe_and (pe_callB call_isi (by rfl) T.z_isinstance (by decide +kernel) (pa_cons (pv 0) (pa_cons (pe_bltn (v := .ty "int") (by rfl) T.z_int (by decide +kernel) rfl) pa_nil)))
        (pe_and (pe_cmpR op_eq (pe_callB call_isi (by rfl) T.z_isinstance (by decide +kernel) (pa_cons (pv 0) (pa_cons (pe_bltn (v := .ty "bool") (by rfl) T.z_bool (by decide +kernel) rfl) pa_nil)))
          (pe_callB call_isi (by rfl) T.z_isinstance (by decide +kernel) (pa_cons (pv 1) (pa_cons (pe_bltn (v := .ty "bool") (by rfl) T.z_bool (by decide +kernel) rfl) pa_nil))) (nomark _)) (pe_one (pe_cmpR op_eq (pv 0) (pv 1) (nomark _)))))))), ?_⟩
    have ht : ∀ H, EvU (tTup (tCons (tC (.ty "tuple")) (tCons (tC (.ty "list")) tNil))) (L2.start ["_law_found", "_law_due", "_law_k"] [x, y]) H [.ty "tuple", .ty "list"] := fun H => eu_tup (ea_cons ev_c (ea_cons ev_c ea_nil)) (by decide)
    rcases hxy with ⟨a, b, rfl, rfl⟩ | ⟨rfl, rfl⟩ | ⟨a, b, rfl, rfl⟩
    · refine q_when (b := false) (et_B (ev_isiTL (ev_var rfl) (ht H) (fun _ _ => .base (.str b)) (by decide +kernel) (by decide +kernel))) (fun z => nomatch z) fun _ H1 e1 => ?_
      refine q_when (b := true) (et_or (a := false) (b := true) (et_test (ev_op (x := .str b) (ev_var rfl) ev_c fun H3 _ Q q => ⟨rfl, q H3 (Ex.refl _)⟩)) fun _ => et_B (ev_isi (ev_var rfl) ev_c (fun _ _ => .base (.str b)) (by decide +kernel : kitB "str" "str" = some true))) (fun _ H2 e2 => ?_) fun z => nomatch z
      refine s_ret (v := .bl (decide (V.str a = V.str b) && true)) (ev_andV (ev_op (ev_var rfl) (ev_var rfl) (rv_eq rfl)) fun _ => ev_op (ev_isi (ev_var rfl) ev_c (fun _ _ => .base (.str a)) (by decide +kernel : kitB "str" "str" = some true)) (ev_isi (ev_var rfl) ev_c (fun _ _ => .base (.str b)) (by decide +kernel : kitB "str" "str" = some true)) (rv_eq rfl)) fun H3 e3 => ?_
      rw [Bool.and_true]
      exact k H3 ((e1.trans e2).trans e3)
    · refine q_when (b := false) (et_B (ev_isiTL (ev_var rfl) (ht H) (fun _ _ => .base .non) (by decide +kernel) (by decide +kernel))) (fun z => nomatch z) fun _ H1 e1 => ?_
      refine q_when (b := true) (et_or (a := true) (b := false) (et_test (ev_op (x := .non) (ev_var rfl) ev_c fun H3 _ Q q => ⟨rfl, q H3 (Ex.refl _)⟩)) fun z => nomatch z) (fun _ H2 e2 => ?_) fun z => nomatch z
      exact s_ret (v := .bl true) (ev_andV (a := true) (b := true) (ev_op (ev_var rfl) (ev_var rfl) (rv_eq rfl)) fun _ => ev_op (ev_isi (ev_var rfl) ev_c (fun _ _ => .base .non) (by decide +kernel : kitB "NoneType" "str" = some false)) (ev_isi (ev_var rfl) ev_c (fun _ _ => .base .non) (by decide +kernel : kitB "NoneType" "str" = some false)) (rv_eq rfl)) fun H3 e3 => k H3 ((e1.trans e2).trans e3)
    · refine q_when (b := false) (et_B (ev_isiTL (ev_var rfl) (ht H) (fun _ _ => .base (.bl b)) (by decide +kernel) (by decide +kernel))) (fun z => nomatch z) fun _ H1 e1 => ?_
      refine q_when (b := false) (et_or (a := false) (b := false) (et_test (ev_op (x := .bl b) (ev_var rfl) ev_c fun H3 _ Q q => ⟨rfl, q H3 (Ex.refl _)⟩)) fun _ => et_B (ev_isi (ev_var rfl) ev_c (fun _ _ => .base (.bl b)) (by decide +kernel : kitB "bool" "str" = some false))) (fun z => nomatch z) fun _ H2 e2 => ?_
      refine s_ret (v := .bl (true && (true && decide (V.bl a = V.bl b)))) (ev_andV (ev_isi (ev_var rfl) ev_c (fun _ _ => .base (.bl a)) (by decide +kernel : kitB "bool" "int" = some true)) fun _ =>
        ev_andV (ev_op (ev_isi (ev_var rfl) ev_c (fun _ _ => .base (.bl a)) (by decide +kernel : kitB "bool" "bool" = some true)) (ev_isi (ev_var rfl) ev_c (fun _ _ => .base (.bl b)) (by decide +kernel : kitB "bool" "bool" = some true)) (rv_eq rfl)) fun _ => ev_op (ev_var rfl) (ev_var rfl) (rv_eq rfl)) fun H3 e3 => ?_
      rw [Bool.true_and, Bool.true_and]
      exact k H3 ((e1.trans e2).trans e3)
end
end Ow

namespace Ow
open PySem PySem.Spec PyProof.Rows L2 Evl
/-! ### the row -/
section
variable {K : PySem.W.Frag} {r : Addr} {H H1 H2 : Hp} {σ : L2.St} {ta tb te : TE}
theorem ExR.refl (H : Hp) : ExR r H H := fun _ _ _ h => h
theorem ExR.trans (a : ExR r H H1) (b : ExR r H1 H2) : ExR r H H2 := fun x o n h => b x o n (a x o n h)
theorem toR (e : Ex H H1) : ExR r H H1 := fun x o _ h => e x o h
theorem ExR.mut (e : ExR r H H1) (o : HO) : ExR r H (upd H1 r o) := fun x u n h => by
  rw [upd_ne n]
  exact e x u n h
theorem ExR.cut (e : ExR r H H1) : Ex (cut r H) (cut r H1) := fun x o h => by
  unfold Ow.cut at h ⊢
  by_cases n : x = r
  · rw [if_pos n] at h; cases h
  · rw [if_neg n] at h ⊢
    exact e x o n h
theorem cut_sub : Ex (cut r H) H := fun x o h => by
  unfold Ow.cut at h
  by_cases n : x = r
  · rw [if_pos n] at h; cases h
  · rw [if_neg n] at h
    exact h
theorem cut_upd {o : HO} : cut r (upd H r o) = cut r H := by
  funext x
  unfold Ow.cut
  by_cases n : x = r
  · rw [if_pos n, if_pos n]
  · rw [if_neg n, if_neg n, upd_ne n]
theorem ev_int1 {i : Int} (h : Ev te σ H (.int i)) : Ev (tCB (fun xs H Q => (∃ i, xs = [.int i] ∧ Q (.int i) H) ∨ ∃ k, xs = [.bl k] ∧ Q (.int (if k then 1 else 0)) H) (tCons te tNil)) σ H (.int i) :=
  ev_cb (ea_cons h ea_nil) fun H1 _ Q q => .inl ⟨i, rfl, q H1 (Ex.refl _)⟩
theorem ev_ixR {xs : List V} {j : Nat} {v : V} {i : Int} (hr : H r = some (.lst xs)) (ha : Ev ta σ H (.ref r)) (hi : i = (j : Int)) (h : xs[j]? = some v) : Ev (tOp (rIxL K) ta (tC (.int i))) σ H v :=
  ev_op ha ev_c (rv_ixL (sq_of hr) (by rw [hi]; exact atI_nat h))
end
section
variable {P : Program} {w : World} {K : PySem.W.Frag} {mg : Str → Option Value} {base : Heap} (T : Txt K mg)
theorem ok_taken : FnOk P w K mg base CX0 1 T.l_taken.f T.l_taken.d ["_law_row", "_law_many"] (spTaken K) := by
  refine T.l_taken.F.ok sc_l_taken (fun vs H Q E h => ?_) (fun cdv A outer s H vs Q E hr h => ?_)
  · obtain ⟨S, r, m, rfl, _⟩ := h
    rfl
  · obtain ⟨⟨a, ns⟩, r, m, rfl, hR, m1, m2, k⟩ := h
    have hs : SqL K (cut r H) a (ns.map V.int) := hR.sq
    obtain ⟨i, x, y, h0, i0, x0, x1, y0⟩ := hR.ex
    refine ⟨_, pss_cons (ps_if (pt_cmpR op_gt (pe_ix ix_list (pv 0) pe_int (fun _ _ => rfl)) pe_int (nomark _))
        (pss_cons (ps_set (i := 2) sc_l_taken.nd rfl (.inl rfl) (pe_op op_mod (pe_callTy call_int1 (by rfl) T.z_int (by decide +kernel) (pa_cons (pe_ix ix_list (pv 0) pe_int (fun _ _ => rfl)) pa_nil)) (pv 1)))
        (pss_cons (ps_asg (pe_op op_fdiv (pe_ix ix_list (pv 0) pe_int (fun _ _ => rfl)) (pv 1)) (pg_sub (pv 0) pe_int set_list))
        (pss_one (ps_ret (pv 2))))) pss_nil)
      (pss_cons (ps_asg (pe_op op_add (pe_ix ix_list (pv 0) pe_int (fun _ _ => rfl)) pe_int) (pg_sub (pv 0) pe_int set_list))
      (pss_cons (ps_if (pt_cmpR op_gt (pe_ix ix_list (pv 0) pe_int (fun _ _ => rfl)) (pe_callB call_len_seq (by rfl) T.z_len PySem.boot_len (pa_cons (pe_ix ix_list (pv 0) pe_int (fun _ _ => rfl)) pa_nil)) (nomark _))
        (pss_cons (ps_asg (pe_op op_mod (pe_callTy call_int1 (by rfl) T.z_int (by decide +kernel) (pa_cons (pe_op op_add (pe_op op_mul (pe_ix ix_list (pv 0) pe_int (fun _ _ => rfl)) pe_int) pe_int) pa_nil)) pe_int) (pg_sub (pv 0) pe_int set_list))
        (pss_one (ps_ret (pe_op op_mod (pe_callTy call_int1 (by rfl) T.z_int (by decide +kernel) (pa_cons (pe_op op_fdiv (pe_ix ix_list (pv 0) pe_int (fun _ _ => rfl)) pe_int) pa_nil)) (pv 1))))) pss_nil)
      (pss_cons (ps_set (i := 3) sc_l_taken.nd rfl (.inl rfl) (pe_ix ix_list (pe_ix ix_list (pv 0) pe_int (fun _ _ => rfl)) (pe_op op_sub (pe_ix ix_list (pv 0) pe_int (fun _ _ => rfl)) pe_int) (fun _ _ => rfl)))
      (pss_cons (ps_asg (pe_op op_mod (pe_callTy call_int1 (by rfl) T.z_int (by decide +kernel) (pa_cons (pe_op op_add (pe_op op_add (pe_op op_mul (pe_ix ix_list (pv 0) pe_int (fun _ _ => rfl)) pe_int) (pv 3)) pe_int) pa_nil)) pe_int) (pg_sub (pv 0) pe_int set_list))
      (pss_cons (ps_if (pt_cmpR op_ge (pv 3) (pe_op op_pow pe_int pe_int) (nomark _)) (pss_one (ps_asg (pe_op op_fdiv (pv 3) (pv 1)) (pg_sub (pv 0) pe_int set_list))) pss_nil)
      (pss_one (ps_ret (pe_op op_mod (pe_callTy call_int1 (by rfl) T.z_int (by decide +kernel) (pa_cons (pv 3) pa_nil)) (pv 1))))))))), ?_⟩
    have mok : ∀ z : Int, ∃ t : Nat, V.int (z % m) = .int (t : Int) ∧ (t : Int) < m := fun z => by
      have h1 := Int.emod_nonneg z (show m ≠ 0 by omega)
      have h2 := Int.emod_lt_of_pos z (show 0 < m by omega)
      exact ⟨(z % m).toNat, by rw [Int.toNat_of_nonneg h1], by rw [Int.toNat_of_nonneg h1]; exact h2⟩
    have mod7 : ∀ z : Int, 0 ≤ z % 2147483647 ∧ z % 2147483647 < 2147483647 := fun z => ⟨Int.emod_nonneg z (by decide), Int.emod_lt_of_pos z (by decide)⟩
    have div0 : ∀ z : Int, 0 ≤ z → 0 ≤ z / m := fun z hz => Int.ediv_nonneg hz (by omega)
    -- a row that stands at the end
    have fin : ∀ {H' : Hp} {v : V} {i' x' y' : Int}, ExR r H H' → H' r = some (.lst [.ref a, .int i', .int x', .int y']) → 0 ≤ i' → 0 ≤ x' → x' < 2147483647 → 0 ≤ y' → (∃ t : Nat, v = .int (t : Int) ∧ (t : Int) < m) → Q v H' := fun {H' v i' x' y'} e hr' p1 p2 p3 p4 pv =>
      k _ _ e ⟨ex_l e.cut hs, hR.few, i', x', y', hr', p1, p2, p3, p4⟩ pv
    by_cases hy : 0 < y
    · refine q_when (b := true) (et_test (ev_is (ev_op (ev_ixR (j := 3) h0 (ev_var rfl) rfl rfl) ev_c rv_I0) (by rw [decide_eq_true hy]))) (fun _ H1 e1 => ?_) fun z => nomatch z
      have h1 := e1 _ _ h0
      refine q_asg (ev_op (ev_int1 (ev_ixR (j := 3) h1 (ev_var rfl) rfl rfl)) (ev_var rfl) (rv_I (by show 0 < m; omega))) fun H2 e2 => ?_
      have h2 := e2 _ _ h1
      refine q_setL (j := 3) h2 (ev_op (ev_ixR (j := 3) h2 (ev_var rfl) rfl rfl) (ev_var rfl) (rv_I (by show 0 < m ∧ m < 1073741824; omega))) (ev_var rfl) ev_c (by simp) fun H3 e3 => ?_
      exact s_ret (ev_var rfl) fun H4 e4 => fin (((toR ((e1.trans e2).trans e3)).mut _).trans (toR e4)) (e4 _ _ upd_same) i0 x0 x1 (div0 y y0) (mok y)
    · refine q_when (b := false) (et_test (ev_is (ev_op (ev_ixR (j := 3) h0 (ev_var rfl) rfl rfl) ev_c rv_I0) (by rw [decide_eq_false hy]))) (fun z => nomatch z) fun _ H1 e1 => ?_
      have h1 := e1 _ _ h0
      refine q_setL (j := 1) h1 (ev_op (ev_ixR (j := 1) h1 (ev_var rfl) rfl rfl) ev_c rv_I0) (ev_var rfl) ev_c (by simp) fun H2 e2 => ?_
      have hs2 : SqL K (upd H2 r (.lst [.ref a, .int (i + 1), .int x, .int y])) a (ns.map V.int) := ex_l cut_sub (by rw [cut_upd]; exact ex_l (toR (e1.trans e2)).cut hs)
      have r2 : ExR r H (upd H2 r (.lst [.ref a, .int (i + 1), .int x, .int y])) := (toR (e1.trans e2)).mut _
      change tSeq _ _ _ _ (upd H2 r (.lst [.ref a, .int (i + 1), .int x, .int y]))
      generalize hG : upd H2 r (.lst [.ref a, .int (i + 1), .int x, .int y]) = G at hs2 r2
      have g0 : G r = some (.lst [.ref a, .int (i + 1), .int x, .int y]) := by rw [← hG]; exact upd_same
      have tl : Ev (tCB (rLenS K) (tCons (tOp (rIxL K) (tVar 0) (tC (.int 0))) tNil)) (L2.start ["_law_row", "_law_many", "_law_found", "_law_cell"] [.ref r, .int m]) G (.int ((ns.map V.int).length : Int)) := ev_len (ev_ixR (j := 0) g0 (ev_var rfl) rfl rfl) hs2
      by_cases hc : (i + 1 : Int) > ((ns.map V.int).length : Int)
      · refine q_when (b := true) (et_test (ev_is (ev_op (ev_ixR (j := 1) g0 (ev_var rfl) rfl rfl) tl rv_I0) (by rw [decide_eq_true (show ((ns.map V.int).length : Int) < i + 1 from hc)]))) (fun _ H3 e3 => ?_) fun z => nomatch z
        have h3 := e3 _ _ g0
        refine q_setL (j := 2) h3 (ev_op (ev_int1 (ev_op (ev_op (ev_ixR (j := 2) h3 (ev_var rfl) rfl rfl) ev_c (rv_I (Or.inl ⟨by omega, by omega⟩))) ev_c rv_I0)) ev_c (rv_I (by decide))) (ev_var rfl) ev_c (by simp) fun H4 e4 => ?_
        refine s_ret (ev_op (ev_int1 (ev_op (ev_ixR (j := 2) upd_same (ev_var rfl) rfl rfl) ev_c (rv_I ⟨by decide, by decide⟩))) (ev_var rfl) (rv_I (by show 0 < m; omega))) fun H5 e5 => ?_
        exact fin (((r2.trans (toR (e3.trans e4))).mut _).trans (toR e5)) (e5 _ _ upd_same) (by omega) (mod7 _).1 (mod7 _).2 y0 (mok _)
      · have hc' : ¬ ((ns.map V.int).length : Int) < i + 1 := hc
        refine q_when (b := false) (et_test (ev_is (ev_op (ev_ixR (j := 1) g0 (ev_var rfl) rfl rfl) tl rv_I0) (by rw [decide_eq_false hc']))) (fun z => nomatch z) fun _ H3 e3 => ?_
        have h3 := e3 _ _ g0
        rw [List.length_map] at hc'
        have hi : i.toNat < ns.length := by omega
        have gi : (ns.map V.int)[i.toNat]? = some (.int ns[i.toNat]) := by rw [List.getElem?_map, List.getElem?_eq_getElem hi]; rfl
        generalize ns[i.toNat] = cell at gi
        refine q_asg (v := .int cell) (ev_op (ev_ixR (j := 0) h3 (ev_var rfl) rfl rfl) (ev_op (ev_ixR (j := 1) h3 (ev_var rfl) rfl rfl) ev_c rv_I0) (rv_ixL (ex_l e3 hs2) (by rw [show (i + 1 - 1 : Int) = (i.toNat : Int) by omega]; exact atI_nat gi))) fun H4 e4 => ?_
        have h4 := e4 _ _ h3
        refine q_setL (j := 2) h4 (ev_op (ev_int1 (ev_op (ev_op (ev_op (ev_ixR (j := 2) h4 (ev_var rfl) rfl rfl) ev_c (rv_I (Or.inl ⟨by omega, by omega⟩))) (ev_var rfl) rv_I0) ev_c rv_I0)) ev_c (rv_I (by decide))) (ev_var rfl) ev_c (by simp) fun H5 e5 => ?_
        have r5 : ExR r H (upd H5 r (.lst [.ref a, .int (i + 1), .int ((x * 48271 + cell + 11) % 2147483647), .int y])) := (r2.trans (toR ((e3.trans e4).trans e5))).mut _
        have g5 : (upd H5 r (.lst [.ref a, .int (i + 1), .int ((x * 48271 + cell + 11) % 2147483647), .int y])) r = some (.lst [.ref a, .int (i + 1), .int ((x * 48271 + cell + 11) % 2147483647), .int y]) := upd_same
        change tSeq _ _ _ _ (upd H5 r (.lst [.ref a, .int (i + 1), .int ((x * 48271 + cell + 11) % 2147483647), .int y]))
        generalize upd H5 r (.lst [.ref a, .int (i + 1), .int ((x * 48271 + cell + 11) % 2147483647), .int y]) = G5 at r5 g5
        have tp : Ev (tOp (rI CPow fun i j => .int (i ^ j.toNat)) (tC (.int 10)) (tC (.int 18))) (L2.start ["_law_row", "_law_many", "_law_found", "_law_cell"] [.ref r, .int m] |>.set 3 (some (.int cell))) G5 (.int (10 ^ 18)) := ev_op ev_c ev_c (rv_I ⟨by decide, by decide, by decide⟩)
        by_cases hp : (10 ^ 18 : Int) ≤ cell
        · refine q_when (b := true) (et_test (ev_is (ev_op (ev_var rfl) tp rv_I0) (by rw [decide_eq_true hp]))) (fun _ H6 e6 => ?_) fun z => nomatch z
          have h6 := e6 _ _ g5
          refine s_setL (j := 3) h6 (ev_op (ev_var rfl) (ev_var rfl) (rv_I (by show 0 < m ∧ m < 1073741824; omega))) (ev_var rfl) ev_c (by simp) fun H7 e7 => ?_
          refine s_ret (ev_op (ev_int1 (ev_var rfl)) (ev_var rfl) (rv_I (by show 0 < m; omega))) fun H8 e8 => ?_
          exact fin (((r5.trans (toR (e6.trans e7))).mut _).trans (toR e8)) (e8 _ _ upd_same) (by omega) (mod7 _).1 (mod7 _).2 (div0 cell (by omega)) (mok _)
        · refine q_when (b := false) (et_test (ev_is (ev_op (ev_var rfl) tp rv_I0) (by rw [decide_eq_false hp]))) (fun z => nomatch z) fun _ H6 e6 => ?_
          refine s_ret (ev_op (ev_int1 (ev_var rfl)) (ev_var rfl) (rv_I (by show 0 < m; omega))) fun H8 e8 => ?_
          exact fin (r5.trans (toR (e6.trans e8))) (e8 _ _ (e6 _ _ g5)) (by omega) (mod7 _).1 (mod7 _).2 y0 (mok _)
end
end Ow

namespace Ow
open PySem PySem.Spec PyProof.Rows L2 Evl
/-! ### sorted(text) -/
section
variable {X : Cx}
theorem signs_are {l : List Nat} : ∀ {us : List Value} , (∀ (j : Nat) (v : Value), us[j]? = some v → ∃ c u, l[j]? = some c ∧ v = .str ⟨#[c]⟩ u) → us.length = l.length → StrsAre us (l.map fun c => tx [c]) := by
  intro us h hl
  refine strs_at (by rw [List.length_map, hl]) fun j v e => ?_
  obtain ⟨c, u, h1, h2⟩ := h j v e
  exact ⟨tx [c], u, by rw [List.getElem?_map, h1]; rfl, h2⟩
def rSortT : List V → Hp → VK → Prop := fun xs H Q => ∃ l : List Nat, xs = [.str (tx l)] ∧ l.length < 64 ∧ ∀ ys p, ys.Perm (l.map fun c => tx [c]) → sortedS ys = true → H p = none → Q (.ref p) (upd H p (.lst (ys.map V.str)))
theorem call_sortT (hcalm : X.calm = true) : CallR X (.builtin "sorted") rSortT := by
  intro pins s σ H xs us Q I r q
  obtain ⟨l, ex, h64, q⟩ := q
  subst ex
  obtain ⟨u, eu, rx⟩ := vals1 r
  subst eu
  obtain ⟨t, rx⟩ := rx
  subst rx
  refine Calls.call_function_entry PyProof.Rows.kind_sorted PyProof.Rows.plain_sorted PyProof.Rows.entry_sorted (PyProof.Rows.args_sorted1 _) ?_
  unfold Builtin.«sorted»
  refine wpAny_bind (m := checkCount "sorted" 1 1 _) (wpAny_pure ?_)
  have hsz : (tx l).cps.size = l.length := by simp
  refine wpAny_bind (PySem.wpAny_collect_str (A := X.A.in1) (I.ok.hd hcalm) (tx l) t (fun s' acc hk hg hd ho hacc => ?_) (by rw [hsz, sizeLine_eq]; omega))
  have hal : acc.toList.length = l.length := by rw [Array.length_toList, hacc.1, hsz]
  have hS : StrsAre acc.toList (l.map fun c => tx [c]) := signs_are (fun j v e => by
    obtain ⟨c, u, e1, e2⟩ := hacc.2 j v (by rw [← Array.getElem?_toList]; exact e)
    exact ⟨c, u, by simpa using e1, e2⟩) hal
  have hlm : (l.map fun c => tx [c]).length = l.length := List.length_map _
  obtain ⟨h', g', d', tk, o'⟩ := s'
  have e1 : g' = s.gens := hg
  have e2 : d' = s.drawn := hd
  have e3 : o' = s.os := ho
  subst e1 e2 e3
  have I1 : Inv X pins σ H { s with heap := h', toks := tk } := I.kept hk
  refine wpAny_bind (wpAny_newList ?_ (by rw [hal, sizeLine_eq]; omega))
  have hoL : (h'.push (seqObj "list" acc.toList.toArray 0)).get? h'.objs.size = some (seqObj "list" acc.toList.toArray 0) := Heap.get?_push_size _ rfl
  show wpAny _ _ _ _ _ { s with heap := h'.push (seqObj "list" acc.toList.toArray 0), toks := tk }
  refine wpAny_bind (wpAny_holding (wpAny_call_entry PyProof.Rows.slot_list_sort ⟨_, hoL, rfl⟩ PyProof.Rows.entry_list_sort
    (list_sort_treeK strKind_oneLt (s := { s with heap := h'.push (seqObj "list" acc.toList.toArray 0), toks := tk }) hoL hS.keysOf (fun v₁ v₂ rest e => keyKind_strs (by rw [← e]; exact hS)) (by rw [hal]; exact h64) fun st' hp hs => ⟨_, rfl, ?_⟩)
    (PyProof.Rows.args_list_sort _)))
  obtain ⟨ys, g1, g2, g3⟩ := sorted_out_str hS hp hs
  obtain ⟨e', he'⟩ := PyProof.Rows.sortedHeap_at (vs := acc.toList) (out := (arrOf st').map (·.2)) hoL
  have hlen : (ys.map V.str).length ≤ sizeLine := by
    rw [List.length_map, g2.length_eq, hlm, sizeLine_eq]
    omega
  refine wpAny_pure ⟨_, rfl, .ref h'.objs.size, upd H h'.objs.size (.lst (ys.map V.str)), I1.laid (t' := tk) (fun b u e => ?_) (Nat.le_refl _)
    (show ObjOk X.prog X.w _ _ _ (.lst (ys.map V.str)) from ⟨hlen, ((arrOf st').map (·.2)).toList, e', vals_of_strs g1, by rw [Array.toArray_toList]; exact he'⟩), rfl, q ys _ g2 g3 (I1.hok.fresh (Nat.le_refl _))⟩
  have hb : b < h'.objs.size := Heap.lt_size e
  rw [PyProof.Rows.sortedHeap_old (Nat.ne_of_lt hb) (by rw [size_push']; exact Nat.lt_succ_of_lt hb)]
  exact Heap.get?_push_of_some _ e
end
end Ow

namespace Ow
open PySem PySem.Spec PyProof.Rows L2 Evl
/-! ### sorted lists of one-sign texts -/
abbrev one1 (c : Nat) : Str := tx [c]
def hd1 (s : Str) : Nat := s.cps.toList.headD 0
theorem hd_one (c : Nat) : hd1 (one1 c) = c := rfl
theorem rising_ones : ∀ (zs : List Nat) (c : Nat), risingS (one1 c) (zs.map one1) = true → (c :: zs).Pairwise (· ≤ ·)
  | [], c, _ => List.pairwise_singleton _ _
  | z :: r, c, h => by
    rw [List.map_cons] at h
    have h2 : ltCps [z] [c] = false ∧ risingS (one1 z) (r.map one1) = true := by
      unfold risingS at h
      simpa using h
    have ih := rising_ones r z h2.2
    have hcz : c ≤ z := by
      have := h2.1
      simp [ltCps] at this
      omega
    refine List.pairwise_cons.mpr ⟨fun y hy => ?_, ih⟩
    rcases List.mem_cons.mp hy with rfl | hy
    · exact hcz
    · exact Nat.le_trans hcz ((List.pairwise_cons.mp ih).1 y hy)
theorem sorted_ones {l : List Nat} {ys : List Str} (hp : ys.Perm (l.map one1)) (hs : sortedS ys = true) : ∃ zs : List Nat, ys = zs.map one1 ∧ zs.Perm l ∧ zs.Pairwise (· ≤ ·) := by
  have e : ys = (ys.map hd1).map one1 := by
    rw [List.map_map]
    have : ∀ y ∈ ys, (one1 ∘ hd1) y = y := fun y hy => by
      obtain ⟨c, _, rfl⟩ := List.mem_map.mp (hp.mem_iff.mp hy)
      rfl
    conv => lhs; rw [← List.map_id ys]
    exact List.map_congr_left fun y hy => (this y hy).symm
  refine ⟨ys.map hd1, e, ?_, ?_⟩
  · have := hp.map hd1
    rw [List.map_map] at this
    have e2 : (hd1 ∘ one1) = id := rfl
    rw [e2, List.map_id] at this
    exact this
  · generalize hz : ys.map hd1 = zs at e
    rw [e] at hs
    cases zs with
    | nil => exact List.Pairwise.nil
    | cons z r => exact rising_ones r z hs
theorem perm_asc : ∀ {u v : List Nat}, u.Perm v → u.Pairwise (· ≤ ·) → v.Pairwise (· ≤ ·) → u = v
  | [], v, h, _, _ => (List.nil_perm.mp h).symm ▸ rfl
  | x :: r, [], h, _, _ => absurd h.length_eq (by simp)
  | x :: r, y :: t, h, hu, hv => by
    obtain ⟨u1, u2⟩ := List.pairwise_cons.mp hu
    obtain ⟨v1, v2⟩ := List.pairwise_cons.mp hv
    have e : x = y := by
      have hx : x ∈ y :: t := h.mem_iff.mp List.mem_cons_self
      have hy : y ∈ x :: r := h.mem_iff.mpr List.mem_cons_self
      rcases List.mem_cons.mp hx with rfl | hx
      · rfl
      · rcases List.mem_cons.mp hy with e | hy
        · exact e.symm
        · exact Nat.le_antisymm (u1 y hy) (v1 x hx)
    subst e
    rw [perm_asc ((List.perm_cons x).mp h) u2 v2]
theorem asc_of_nodup {u : List Nat} (h : u.Pairwise (· ≤ ·)) (n : u.Nodup) : u.Pairwise (· < ·) := by
  refine (h.and n).imp fun {a b} ⟨x, y⟩ => ?_
  omega
theorem asc_le {u : List Nat} (h : u.Pairwise (· < ·)) : u.Pairwise (· ≤ ·) := h.imp fun {a b} x => Nat.le_of_lt x
theorem asc_nodup {u : List Nat} (h : u.Pairwise (· < ·)) : u.Nodup := h.imp fun {a b} x => Nat.ne_of_lt x
/-! ### sorted(text) as a reading -/
section
variable {X : Cx} {K : PySem.W.Frag} {σ : L2.St} {H H' : Hp} {ta tb te : TE}
def ones (zs : List Nat) : List V := zs.map fun c => V.str (tx [c])
/-- sorted(text): a new list of its signs, ascending -/
theorem evp_sortT {l : List Nat} (h : Ev ta σ H (.str (tx l))) (hl : l.length < 64) :
    EvP (tCB rSortT (tCons ta tNil)) σ H fun v H2 => ∃ p zs, v = .ref p ∧ H2 p = some (.lst (ones zs)) ∧ zs.Perm l ∧ zs.Pairwise (· ≤ ·) := fun H1 e Q q =>
  h H1 e _ fun H2 e2 => ⟨l, rfl, hl, fun ys p hp hs hn => by
    obtain ⟨zs, rfl, z1, z2⟩ := sorted_ones hp hs
    exact q _ _ (e2.trans (Ex.new hn)) ⟨p, zs, rfl, by rw [upd_same, List.map_map]; rfl, z1, z2⟩⟩
theorem evx_sortT {l : List Nat} (h : Ev ta σ H (.str (tx l))) (hl : l.length < 64) :
    EvX (iList K (tCB rSortT (tCons ta tNil))) σ H fun xs _ => ∃ zs, xs = ones zs ∧ zs.Perm l ∧ zs.Pairwise (· ≤ ·) :=
  evx_listP ((evp_sortT h hl).weak fun v H2 _ ⟨p, zs, a, b, c, d⟩ => ⟨p, ones zs, a, b, zs, rfl, c, d⟩)
/-- sorted(list of one-sign texts) -/
theorem evp_sortL {l : List Nat} (h : EvP ta σ H fun v H2 => ∃ p, v = .ref p ∧ H2 p = some (.lst (ones l))) (hl : l.length < 64) :
    EvP (tCB (rSortedS K) (tCons ta tNil)) σ H fun v H2 => ∃ p zs, v = .ref p ∧ H2 p = some (.lst (ones zs)) ∧ zs.Perm l ∧ zs.Pairwise (· ≤ ·) := fun H1 e Q q =>
  h H1 e _ fun v H2 e2 ⟨a, ha, hp⟩ => by
    subst ha
    refine ⟨a, l.map one1, rfl, sq_of (by rw [hp, List.map_map]; rfl), by rw [List.length_map]; exact hl, fun ys p hp hs hn => ?_⟩
    obtain ⟨zs, rfl, z1, z2⟩ := sorted_ones hp hs
    exact q _ _ (e2.trans (Ex.new hn)) ⟨p, zs, rfl, by rw [upd_same, List.map_map]; rfl, z1, z2⟩
end
end Ow

namespace Ow
open PySem PySem.Spec PyProof.Rows L2 Evl
open Builtin Builtin.Str Builtin.Int in
theorem join_tree_text (sep : Str) (t u : Tok) (y : Str) : «str.join» ⟨[.str sep t, .str y u], []⟩ = (do
    let ty ← typeOf (.str y u)
    if (ty == .type "list" || ty == .type "tuple") = true then (do
      match ← seqItems? (.str y u) with
      | some xs => joinTail sep xs.toList
      | none => unsupported "internal:str.join")
    else (do
      let it ← (pyIter (.str y u)).tryCatch fun e => do
        if ← isInstance e (.type "TypeError") then rule "str.join.not-iterable"; raiseError "TypeError" "can only join an iterable" else throw e
      let items ← collect it
      joinTail sep items)) := rfl
section
variable {prog : Program} {w : World} {A : Around} {E : Value → Shared → Prop} {s : Shared}
/-- sep.join(text) -/
theorem join_text {x y : Str} {t u : Tok} {ys : List Str} {Q : Value → Shared → Prop} (hh : A.handled = none) (hz : y.cps.size ≤ sizeLine) (hP : ∀ acc : Array Value, ItemsOf (SignAt y) acc y.cps.size → StrsAre acc.toList ys) (hok : (ys.map (·.length)).sum + ys.length * x.length ≤ 16777216)
    (hq : ∀ h' k, (∀ b o, s.heap.get? b = some o → h'.get? b = some o) → ∀ t', Q (.str (Txt.join x ys) t') { s with heap := h', toks := k }) :
    wpAny (model prog w) A (call (.builtin "str.join") [.str x t, .str y u]) Q E s := by
  refine wpAny_call (codeAny_call_builtin F.slot_str_join.plain F.entry_str_join (F.slot_str_join.check _ _ _ _ _ _ _ _ (typeIs_str _ _ _) (F.args_str_join_2 _ _) ?_))
  rw [join_tree_text]
  refine wpAny_bind (wpAny_typeOf (T := "str") (v := .str y u) rfl ?_)
  show wpAny _ A.in1 ((pyIter (.str y u)).tryCatch _ >>= fun it => collect it >>= fun items => joinTail x items) _ _ s
  refine wpAny_bind (wpAny_tryCatch (wpAny_pyIter_strU ?_))
  have hty : strIterType y = "str_ascii_iterator" ∨ strIterType y = "str_iterator" := by
    unfold strIterType
    split
    · exact .inl rfl
    · exact .inr rfl
  refine wpAny_bind (wpAny_collect_strIter (s := { s with heap := s.heap.push { cls := .type (strIterType y), data := .fields #[.str y u, .int 0 0] } }) hh hty ⟨_, Heap.get?_push_size _ rfl, rfl, rfl⟩ (fun s' acc hk hg hd ho hacc => ?_) hz)
  obtain ⟨l, hl, ht⟩ := strsAre_values (hP acc hacc)
  subst ht
  rw [hl]
  have hok' := joinOk_of hok
  unfold JoinOk at hok'
  rw [Bool.not_eq_true'] at hok'
  have g : Gives (joinTail x (strValues l)) (joinMade x l) := by
    have g0 := gives_joinTail x l hok'
    rcases l with _ | ⟨p, _ | ⟨q, r'⟩⟩
    · exact g0
    · exact g0
    · exact g0
  obtain ⟨h', g', d', tk, o'⟩ := s'
  have e1 : g' = s.gens := hg
  have e2 : d' = s.drawn := hd
  have e3 : o' = s.os := ho
  subst e1 e2 e3
  exact g prog w A (wants Q E) { s with heap := h', toks := tk } (post_join (Q := Q) l ⟨joinFit_length hok', fun t' k => hq h' k (fun b o e => hk b o (Nat.ne_of_lt (Heap.lt_size e)) (Heap.get?_push_of_some _ e)) t'⟩)
end
section
variable {X : Cx} {σ : L2.St} {H : Hp} {ta te : TE}
def rJoinT : V → List V → Hp → VK → Prop := fun x xs H Q => ∃ l : List Nat, x = .str (tx []) ∧ xs = [.str (tx l)] ∧ l.length ≤ 100000 ∧ Q (.str (tx l)) H
theorem join_ones (l : List Nat) : Txt.join (tx []) (l.map one1) = tx l := by
  have := join_nil (l.map fun c => [c])
  rw [flat_ones, List.map_map] at this
  exact this
theorem sum_one1 (l : List Nat) : ((l.map one1).map (·.length)).sum = l.length := by
  have := sum_ones l
  rw [List.map_map] at this ⊢
  exact this
theorem mt_joinT (hc : X.calm = true) : MtR X "str.join" rJoinT := by
  intro pins s σ H x xs v us Q I rx rs h
  obtain ⟨l, e1, e2, hl, q⟩ := h
  subst e1 e2
  obtain ⟨t, rfl⟩ := rx
  cases rs with
  | cons r1 rs =>
    cases rs
    obtain ⟨u, rfl⟩ := r1
    have hsz : (tx l).cps.size = l.length := by simp
    refine join_text (ys := l.map one1) (I.ok.hd hc) (by rw [hsz]; exact sz_of hl) (fun acc hacc => signs_are (fun j v e => ?_) (by rw [Array.length_toList, hacc.1, hsz])) ?_ fun h' k hk t' => ⟨.str (tx l), H, I.kept (t' := k) hk, by rw [join_ones]; exact ⟨t', rfl⟩, q⟩
    · obtain ⟨c, u, e1, e2⟩ := hacc.2 j v (by rw [← Array.getElem?_toList]; exact e)
      exact ⟨c, u, by simpa using e1, e2⟩
    · rw [sum_one1]
      have : (tx []).length = 0 := rfl
      rw [this]
      omega
theorem pe_joinT {o e : Expr} {to te : TE} {apos pos : Pos} (hc : X.calm = true) (ho : PE X o to) (he : PE X e te) (hs : starEach [e] X.env = [(false, eval e X.env)] := by rfl) (hbase : attributeBase o "join" X.env (eval o X.env) = eval o X.env := by rfl) (hline : (apos.endLine == pos.line) = true := by rfl) :
    PE X (.Call (.Attribute o "join" apos) [e] [] pos) (tM1 rJoinT to te) := pe_m1 F.slot_str_join F.type_str_join (mt_joinT hc) ho he hs hbase hline
end
end Ow

namespace Ow
open PySem PySem.Spec PyProof.Rows L2 Evl
/-! ### readings that draw -/
theorem yes_it {σ : L2.St} {H : Hp} {Q : Bool → Hp → Prop} (h : Q true H) : tYes σ H Q := h
section
variable {K : PySem.W.Frag} {S : Addr × List Int} {r : Addr} {B H H1 H2 : Hp} {σ : L2.St} {ta tb te tm : TE} {P P' : V → Hp → Prop}
theorem Row.mono (e : Ex H H1) (h : Row K S r H) : Row K S r H1 := by
  obtain ⟨i, x, y, h0, q⟩ := h.ex
  exact ⟨ex_l (toR e).cut h.sq, h.few, i, x, y, e _ _ h0, q⟩
theorem ExR.mutN {D : Addr} {o : HO} (e : ExR r H H1) (hD : H D = none) : ExR r H (upd H1 D o) := fun x u n h => by
  rw [upd_ne (ne_of_none h hD)]
  exact e x u n h
/-- what was new behind H may change -/
theorem Row.upd {D : Addr} {o : HO} (h : Row K S r H) (e : ExR r H H1) (h1 : Row K S r H1) (hD : H D = none) : Row K S r (upd H1 D o) := by
  obtain ⟨i, x, y, h0, q⟩ := h1.ex
  obtain ⟨_, _, _, g0, _⟩ := h.ex
  exact ⟨ex_l (e.mutN hD).cut h.sq, h.few, i, x, y, by rw [upd_ne (ne_of_none g0 hD)]; exact h0, q⟩
theorem Row.ne {D : Addr} (h : Row K S r H) (hD : H D = none) : D ≠ r := fun z => by
  obtain ⟨_, _, _, h0, _⟩ := h.ex
  rw [← z, hD] at h0
  cases h0
theorem exB (b : B r = none) (e : Ex B H) (g : ExR r H H1) : Ex B H1 := fun x o h => g x o (ne_of_none h b) (e x o h)
theorem cut_r : cut r H r = none := by unfold Ow.cut; rw [if_pos rfl]
/-- evaluates in all that holds B and a row at r -/
def RP (K : PySem.W.Frag) (S : Addr × List Int) (r : Addr) (B : Hp) (te : TE) (σ : L2.St) (P : V → Hp → Prop) : Prop := ∀ H1, Ex B H1 → Row K S r H1 → ∀ Q : VK, (∀ v H2, ExR r H1 H2 → Row K S r H2 → P v H2 → Q v H2) → te σ H1 Q
theorem rp_ev {v : V} (h : Ev te σ B v) : RP K S r B te σ fun x _ => x = v := fun H1 e R Q q => h H1 e Q fun H2 e2 => q v H2 (toR e2) (R.mono e2) rfl
theorem rp_taken {i : Nat} {m : Int} {E : XK} (hi : σ[i]? = some (some (.ref r))) (hm : Ev tm σ B (.int m)) (m1 : 1 ≤ m) (m2 : m ≤ 1000000) :
    RP K S r B (tCall (spTaken K) [] E (tCons (tVar i) (tCons tm tNil))) σ fun v _ => ∃ t : Nat, v = .int (t : Int) ∧ (t : Int) < m := fun H1 e R Q q =>
  ⟨_, hi, hm H1 e _ fun H2 e2 => ⟨S, r, m, rfl, R.mono e2, m1, m2, fun v H3 e3 R3 p => q v H3 ((toR e2).trans e3) R3 p⟩⟩
/-- an operation on what is drawn -/
theorem rp_op {rr : R2} {ta tb : TE} {Z : V → V → V → Prop} (b : B r = none) {Pa Pb : V → Prop} (ha : RP K S r B ta σ fun v _ => Pa v) (hb : RP K S r B tb σ fun v _ => Pb v) (hr : ∀ x y H1, Pa x → Pb y → Ex B H1 → ∀ Q : VK, (∀ z, Z x y z → Q z H1) → rr x y H1 Q) :
    RP K S r B (tOp rr ta tb) σ fun z _ => ∃ x y, Pa x ∧ Pb y ∧ Z x y z := fun H1 e R Q q =>
  ha H1 e R _ fun x H2 e2 R2 pa => hb H2 (exB b e e2) R2 _ fun y H3 e3 R3 pb => hr x y H3 pa pb (exB b (exB b e e2) e3) Q fun z hz => q z H3 (e2.trans e3) R3 ⟨x, y, pa, pb, hz⟩
end
section
variable {P : Program} {w : World} {K : PySem.W.Frag} {mg : Str → Option Value} {base : Heap} (T : Txt K mg)
theorem ok_pick (GT : FnOk P w K mg base CX0 1 T.l_taken.f T.l_taken.d ["_law_row", "_law_many"] (spTaken K)) : FnOk P w K mg base CX0 2 T.l_pick.f T.l_pick.d ["_law_row", "_law_things"] (spPick K) := by
  refine T.l_pick.F.ok sc_l_pick (fun vs H Q E h => ?_) (fun cdv A outer s H vs Q E hr h => ?_)
  · obtain ⟨S, r, l, xs, rfl, _⟩ := h
    rfl
  · obtain ⟨S, r, l, xs, rfl, hR, hl, hne, hlen, k⟩ := h
    refine ⟨_, pss_one (ps_ret (pe_ix ix_list (pv 1) (pe_call GT hr (by rfl) T.l_taken.g T.l_taken.F.kp T.l_taken.b .nil pass0 (pa_cons (pv 0) (pa_cons (pe_callB call_len_seq (by rfl) T.z_len PySem.boot_len (pa_cons (pv 1) pa_nil)) pa_nil))) (fun _ _ => rfl))), ?_⟩
    have hp : 0 < xs.length := List.length_pos_iff.mpr hne
    refine ⟨_, rfl, ?_⟩
    refine rp_taken (B := cut r H) (i := 0) rfl (ev_len (ev_var rfl) (sq_of hl)) (by omega) (by omega) H cut_sub hR _ fun v H2 e2 R2 ⟨t, hv, ht⟩ => ?_
    subst hv
    have ht' : t < xs.length := by omega
    have b2 : Ex (cut r H) H2 := exB cut_r cut_sub e2
    have e3 : H2 l = some (.lst xs) := b2 _ _ hl
    exact ⟨l, xs, (t : Int), xs[t], rfl, rfl, sq_of e3, atI_nat (List.getElem?_eq_getElem ht'), k _ _ e2 R2 (List.getElem_mem ht')⟩
theorem ok_word (GT : FnOk P w K mg base CX0 1 T.l_taken.f T.l_taken.d ["_law_row", "_law_many"] (spTaken K)) : FnOk P w K mg base CX0 2 T.l_word.f T.l_word.d ["_law_row", "_law_company_here", "_law_most"] (spWord K) := by
  refine T.l_word.F.ok sc_l_word (fun vs H Q E h => ?_) (fun cdv A outer s H vs Q E hr h => ?_)
  · obtain ⟨S, r, c, n, ps, m, rfl, _⟩ := h
    rfl
  · obtain ⟨S, r, c, n, ps, m, rfl, hR, hc, hv, m1, m2, k⟩ := h
    refine ⟨_, pss_one (ps_ret (pe_join pe_str
      (pe_lc (own := [("_law_at", 3)]) (g := gName 3) rfl sc_l_word.nd (pi_range1 rfl T.z_range (pa_cons (pe_op op_add pe_int (pe_call GT hr (by rfl) T.l_taken.g T.l_taken.F.kp T.l_taken.b .nil pass0 (pa_cons (pv 0) (pa_cons (pv 2) pa_nil)))) pa_nil)) (blkOk_by (N := ["_law_row", "_law_company_here", "_law_most", "_law_at"]) (sc := defScope s_l_word) (by decide +kernel)) (fun _ _ _ _ _ => pg_name (i := 3) sc_l_word.nd rfl (.inl rfl))
        (fun _ _ _ _ _ => pts_nil) (fun _ _ _ _ _ => pe_ix ix_str pe_str (pe_call GT hr (by rfl) T.l_taken.g T.l_taken.F.kp T.l_taken.b .nil pass0 (pa_cons (pv 0) (pa_cons (pe_ix (r := rIxT K) ix_tup (pv 1) pe_int (fun _ _ => rfl)) pa_nil))) (fun _ _ => rfl))))), ?_⟩
    obtain ⟨q, rs, c1, c2, c3, c4⟩ := hc.ex
    have B0 : cut r H r = none := cut_r
    have lo := hv.lo
    have hi := hv.hi
    refine ⟨⟨_, rfl⟩, ?_⟩
    show tOp _ _ _ _ _ _
    refine rp_taken (B := cut r H) (i := 0) rfl (ev_var (v := .int (m : Int)) rfl) (by omega) (by omega) H cut_sub hR _ fun v H2 e2 R2 ⟨t, hv2, ht⟩ => ?_
    subst hv2
    refine ⟨1, (t : Int), rfl, rfl, 1 + (t : Int), rfl, by omega, by omega, fun Dl hD => ?_⟩
    have b2 : Ex (cut r H) H2 := exB B0 cut_sub e2
    have nr : Dl ≠ r := R2.ne hD
    have en : (1 + (t : Int)).toNat = t + 1 := by omega
    rw [en]
    refine lc_range (lo := 0) (n := t + 1) (fun i H' => ExR r H2 H' ∧ Row K S r H' ∧ ∃ l : List Nat, H' Dl = some (.lst (ones l)) ∧ l.length = i ∧ Lt n l) ⟨toR (Ex.new hD), R2.mono (Ex.new hD), [], upd_same, rfl, fun _ h => (by cases h)⟩ (fun i H' hin pv => ?_) fun H' pv => ?_
    · obtain ⟨p1, p2, l, p3, p4, p5⟩ := pv
      refine ⟨rfl, ?_⟩
      refine yes_it (iteT ?_)
      have b' : Ex (cut r H) H' := exB B0 b2 p1
      refine rp_taken (B := cut r H) (i := 0) (m := (n : Int)) rfl (ev_op (ev_var rfl) ev_c (rv_ixT (st_of c1) (atI_nat (j := 0) rfl))) (by omega) (by omega) H' b' p2 _ fun v H4 e4 R4 ⟨u, hv4, hu⟩ => ?_
      subst hv4
      have hu7 : u < 7 := by omega
      refine ⟨_, (u : Int), 97 + u, rfl, rfl, by decide, ?_, ones l, ?_, sz_lt (by unfold ones; rw [List.length_map]; omega), ?_⟩
      · rw [tx_abc, tx_list]
        refine atI_nat ?_
        have : ∀ u : Nat, u < 7 → ([97, 98, 99, 100, 101, 102, 103] : List Nat)[u]? = some (97 + u) := by decide
        exact this u hu7
      · exact e4 _ _ nr p3
      · refine ⟨(p1.trans e4).mutN hD, R2.upd (p1.trans e4) R4 hD, l ++ [97 + u], ?_, ?_, ?_⟩
        · rw [upd_same]; unfold ones; rw [List.map_append]; rfl
        · rw [List.length_append, p4]; rfl
        · intro x hx
          rcases List.mem_append.mp hx with hx | hx
          · exact p5 x hx
          · rw [List.mem_singleton] at hx
            omega
    · obtain ⟨p1, p2, l, p3, p4, p5⟩ := pv
      refine ⟨tx [], Dl, l.map one1, by rw [tx_nil], rfl, .inl (sq_of (by rw [p3, List.map_map]; rfl)), ?_, ?_⟩
      · rw [sum_one1]
        have : (tx []).length = 0 := rfl
        rw [this]
        omega
      · rw [join_ones]
        exact k _ _ ((toR (Ex.refl H)).trans (e2.trans p1)) p2 ⟨l, rfl, p5, by omega⟩
end
end Ow

namespace Ow
open PySem PySem.Spec PyProof.Rows L2 Evl
section
variable {P : Program} {w : World} {K : PySem.W.Frag} {mg : Str → Option Value} {base : Heap} (T : Txt K mg)
theorem ok_drawn_kind (GT : FnOk P w K mg base CX0 1 T.l_taken.f T.l_taken.d ["_law_row", "_law_many"] (spTaken K)) (GW : FnOk P w K mg base CX0 2 T.l_word.f T.l_word.d ["_law_row", "_law_company_here", "_law_most"] (spWord K))
    (GK : FnOk P w K mg base CX0 2 T.l_kind.f T.l_kind.d ["_law_company_here", "_law_word_here"] spKind) : FnOk P w K mg base CX0 3 T.l_drawn_kind.f T.l_drawn_kind.d ["_law_row", "_law_company_here"] (spDrawn K) := by
  refine T.l_drawn_kind.F.ok sc_l_drawn_kind (fun vs H Q E h => ?_) (fun cdv A outer s H vs Q E hr h => ?_)
  · obtain ⟨S, r, c, n, ps, rfl, _⟩ := h
    rfl
  · obtain ⟨S, r, c, n, ps, rfl, hR, hc, hv, k⟩ := h
    refine ⟨_, pss_one (ps_ret (pe_call GK hr (by rfl) T.l_kind.g T.l_kind.F.kp T.l_kind.b .nil pass0 (pa_cons (pv 1) (pa_cons
      (pe_joinT rfl pe_str (pe_ix (r := rIxL K) ix_list (pe_lst (pa_cons pe_str (pa_cons (pe_call GW hr (by rfl) T.l_word.g T.l_word.F.kp T.l_word.b .nil pass0 (pa_cons (pv 0) (pa_cons (pv 1) (pa_cons (pe_op op_mul pe_int (pe_ix (r := rIxT K) ix_tup (pv 1) pe_int (fun _ _ => rfl))) pa_nil)))) pa_nil)))
        (pe_callTy call_int1 (by rfl) T.z_int (by decide +kernel) (pa_cons (pe_cmpR op_gt (pe_call GT (hr.mono (by decide)) (by rfl) T.l_taken.g T.l_taken.F.kp T.l_taken.b .nil pass0 (pa_cons (pv 0) (pa_cons pe_int pa_nil))) pe_int (nomark _)) pa_nil)) (fun _ _ => rfl))) pa_nil)))), ?_⟩
    obtain ⟨q, rs, c1, c2, c3, c4⟩ := hc.ex
    have lo := hv.lo
    have hi := hv.hi
    have tm : Ev (tOp (rI (fun i j => -(2 ^ 64) < i ∧ i < 2 ^ 64 ∨ -(2 ^ 64) < j ∧ j < 2 ^ 64) fun i j => .int (i * j)) (tC (.int 2)) (tOp (rIxT K) (tVar 1) (tC (.int 0)))) (L2.start ["_law_row", "_law_company_here"] [.ref r, .ref c]) (cut r H) (.int (((2 * n : Nat) : Nat) : Int)) := by
      have := ev_op (z := V.int (2 * (n : Int))) (r := rI (fun i j => -(2 ^ 64) < i ∧ i < 2 ^ 64 ∨ -(2 ^ 64) < j ∧ j < 2 ^ 64) fun i j => .int (i * j)) (ta := tC (.int 2)) (tb := tOp (rIxT K) (tVar 1) (tC (.int 0))) (σ := L2.start ["_law_row", "_law_company_here"] [.ref r, .ref c]) (H := cut r H) ev_c (ev_op (ev_var rfl) ev_c (rv_ixT (st_of c1) (atI_nat (j := 0) rfl))) (rv_I (Or.inl ⟨by decide, by decide⟩))
      rw [Int.natCast_mul]
      exact this
    refine ⟨_, rfl, ⟨_, rfl⟩, ?_⟩
    show tOp _ _ _ _ _ _
    refine ⟨_, rfl, _, rfl, tm H cut_sub _ fun H1 e1 => ⟨S, r, c, n, ps, 2 * n, rfl, hR.mono e1, hc.mono (toR e1).cut, hv, by omega, by omega, fun v H2 e2 R2 ⟨word, hv2, hw1, hw2⟩ => ?_⟩⟩
    subst hv2
    refine ⟨show (2 : Nat) ≤ sizeLine by decide, fun p hp => ?_⟩
    have pr := R2.ne hp
    have R3 : Row K S r (upd H2 p (.lst [V.str (Str.ofString ""), V.str (tx word)])) := R2.mono (Ex.new hp)
    have e3 : ExR r H (upd H2 p (.lst [V.str (Str.ofString ""), V.str (tx word)])) := ((toR e1).trans e2).trans (toR (Ex.new hp))
    refine rp_taken (B := cut r (upd H2 p (.lst [V.str (Str.ofString ""), V.str (tx word)]))) (i := 0) (m := 9) rfl ev_c (by decide) (by decide) _ cut_sub R3 _ fun v H4 e4 R4 ⟨t, hv4, _⟩ => ?_
    subst hv4
    refine ⟨(t : Int), 0, rfl, rfl, .inr ⟨_, rfl, ?_⟩⟩
    have b4 : H4 p = some (.lst [V.str (Str.ofString ""), V.str (tx word)]) := e4 _ _ pr upd_same
    have fin : ∀ l : List Nat, Lt n l → l.length ≤ 100 → (tCall spKind [] E0 tNil) [] H4 Q ∨ True → spKind ([V.ref c, V.str (tx l)] ++ []) H4 Q E := fun l h1 h2 _ =>
      ⟨c, n, ps, l, rfl, hc.mono (fun x o hx => (exB cut_r cut_sub (e3.trans e4)) x o hx), hv, h1, by omega, fun H5 e5 => k _ _ ((e3.trans e4).trans (toR e5)) (R4.mono e5) ⟨_, rfl, kd_kd (fr_sym ps) l, fun x hx => h1 x (kd_mem.mp hx)⟩⟩
    by_cases ht : (0 : Int) < t
    · rw [decide_eq_true ht]
      refine ⟨p, _, 1, V.str (tx word), rfl, rfl, sq_of b4, rfl, word, by rw [tx_nil], rfl, by omega, ?_⟩
      exact fin word hw1 hw2 (.inr trivial)
    · rw [decide_eq_false ht]
      refine ⟨p, _, 0, V.str (tx []), rfl, rfl, sq_of b4, by rw [tx_nil]; rfl, [], by rw [tx_nil], rfl, by decide, ?_⟩
      exact fin [] (fun x hx => by cases hx) (by decide) (.inr trivial)
end
end Ow

namespace Ow
open PySem PySem.Spec PyProof.Rows L2 Evl
/-- pairs at addresses -/
def PAt (H : Hp) (rs : List Addr) (ps : List (Nat × Nat)) : Prop := rs.length = ps.length ∧ ∀ (i : Nat) (r : Addr) (p : Nat × Nat), rs[i]? = some r → ps[i]? = some p → H r = some (.tup [.int (p.1 : Int), .int (p.2 : Int)])
theorem PAt.snoc {H : Hp} {rs : List Addr} {ps : List (Nat × Nat)} {r : Addr} {p : Nat × Nat} (h : PAt H rs ps) (hr : H r = some (.tup [.int (p.1 : Int), .int (p.2 : Int)])) : PAt H (rs ++ [r]) (ps ++ [p]) := by
  refine ⟨by rw [List.length_append, List.length_append, h.1]; rfl, fun i r' p' a b => ?_⟩
  by_cases hi : i < rs.length
  · rw [List.getElem?_append_left hi] at a
    rw [List.getElem?_append_left (by rw [← h.1]; exact hi)] at b
    exact h.2 i r' p' a b
  · have h2 : ¬ i < ps.length := by rw [← h.1]; exact hi
    rw [List.getElem?_append_right (by omega)] at a b
    have e : i - rs.length = 0 := by
      have := (List.getElem?_eq_some_iff.mp a).1
      simpa using this
    rw [e] at a
    rw [← h.1, e] at b
    cases a
    cases b
    exact hr
theorem PAt.mono {B H : Hp} {rs : List Addr} {ps : List (Nat × Nat)} (h : PAt B rs ps) (e : Ex B H) : PAt H rs ps := ⟨h.1, fun i r p a b => e _ _ (h.2 i r p a b)⟩
theorem allPairs_mem {n : Nat} {p : Nat × Nat} (h : p ∈ allPairs n) : p.1 < p.2 ∧ p.2 < n := by
  unfold allPairs at h
  obtain ⟨i, hi, h⟩ := List.mem_flatMap.mp h
  obtain ⟨j, hj, rfl⟩ := List.mem_map.mp h
  have := List.mem_range.mp hi
  have := List.mem_range.mp hj
  exact ⟨by show i < i + 1 + j; omega, by show i + 1 + j < n; omega⟩
theorem allPairs_up : ∀ n : Nat, n ≤ 4 → (allPairs n).Pairwise lt2 ∧ (allPairs n).length ≤ 6 := by
  intro n hn
  have : n = 0 ∨ n = 1 ∨ n = 2 ∨ n = 3 ∨ n = 4 := by omega
  unfold lt2
  rcases this with rfl | rfl | rfl | rfl | rfl <;> decide
theorem vc_of {n : Nat} {ps : List (Nat × Nat)} (lo : 1 ≤ n) (hi : n ≤ 4) (h : ps.Sublist (allPairs n)) : Vc n ps := by
  obtain ⟨a, b⟩ := allPairs_up n hi
  exact ⟨lo, hi, fun p hp => allPairs_mem (h.subset hp), a.sublist h, by have := h.length_le; omega⟩
/-- what is kept of the pairs so far -/
structure Kept (H : Hp) (ps : List (Nat × Nat)) (i : Nat) (rs : List Addr) (qs : List (Nat × Nat)) : Prop where
  at_ : PAt H rs qs
  sub : qs.Sublist (ps.take i)
theorem Kept.skip {H : Hp} {ps : List (Nat × Nat)} {i : Nat} {rs : List Addr} {qs : List (Nat × Nat)} (h : Kept H ps i rs qs) : Kept H ps (i + 1) rs qs :=
  ⟨h.at_, h.sub.trans (by rw [List.take_add_one]; exact List.sublist_append_left _ _)⟩
theorem Kept.put {H : Hp} {ps : List (Nat × Nat)} {i : Nat} {rs : List Addr} {qs : List (Nat × Nat)} {r : Addr} {p : Nat × Nat} (h : Kept H ps i rs qs) (hp : ps[i]? = some p) (hr : H r = some (.tup [.int (p.1 : Int), .int (p.2 : Int)])) : Kept H ps (i + 1) (rs ++ [r]) (qs ++ [p]) :=
  ⟨h.at_.snoc hr, by rw [List.take_add_one, hp]; exact h.sub.append (List.Sublist.refl _)⟩
theorem Kept.mono {B H : Hp} {ps : List (Nat × Nat)} {i : Nat} {rs : List Addr} {qs : List (Nat × Nat)} (h : Kept B ps i rs qs) (e : Ex B H) : Kept H ps i rs qs := ⟨h.at_.mono e, h.sub⟩
section
variable {P : Program} {w : World} {K : PySem.W.Frag} {mg : Str → Option Value} {base : Heap} (T : Txt K mg)
theorem ok_company (GT : FnOk P w K mg base CX0 1 T.l_taken.f T.l_taken.d ["_law_row", "_law_many"] (spTaken K)) (GP : FnOk P w K mg base CX0 1 T.l_pairs.f T.l_pairs.d ["_law_many"] spPairs) :
    FnOk P w K mg base CX0 2 T.l_company.f T.l_company.d ["_law_row", "_law_most"] (spCompany K) := by
  refine T.l_company.F.ok sc_l_company (fun vs H Q E h => ?_) (fun cdv A outer s H vs Q E hr h => ?_)
  · obtain ⟨S, r, rfl, _⟩ := h
    rfl
  · obtain ⟨S, r, rfl, hR, k⟩ := h
    refine ⟨_, pss_cons (ps_asg (pe_tup (pa_cons (pe_op op_add pe_int (pe_call GT hr (by rfl) T.l_taken.g T.l_taken.F.kp T.l_taken.b .nil pass0 (pa_cons (pv 0) (pa_cons (pv 1) pa_nil))))
          (pa_cons (pe_ix (r := rIxL K) ix_list (pe_lst (pa_cons pe_int (pa_cons pe_int (pa_cons pe_int pa_nil)))) (pe_call GT hr (by rfl) T.l_taken.g T.l_taken.F.kp T.l_taken.b .nil pass0 (pa_cons (pv 0) (pa_cons pe_int pa_nil))) (fun _ _ => rfl)) pa_nil)))
        (pg_tup rfl (pgs_cons (pg_name (i := 2) sc_l_company.nd rfl (.inl rfl)) (pgs_cons (pg_name (i := 3) sc_l_company.nd rfl (.inr rfl)) pgs_nil))))
      (pss_cons (ps_setLc (i := 4) (own := [("_law_pair", 5)]) (g := gName 5) rfl sc_l_company.nd rfl rfl (sw_true rfl rfl rfl (by decide +kernel)) (pi_list (pe_call GP hr (by rfl) T.l_pairs.g T.l_pairs.F.kp T.l_pairs.b .nil pass0 (pa_cons (pv 2) pa_nil)))
          (blkOk_by (N := ["_law_row", "_law_most", "_law_many", "_law_ways", "_law_pairs_here", "_law_pair"]) (sc := defScope s_l_company) (by decide +kernel)) (fun _ _ _ _ _ => pg_name (i := 5) sc_l_company.nd rfl (.inl rfl))
          (fun _ _ _ _ _ => pts_one (pt_cmpR op_gt (pe_call GT hr (by rfl) T.l_taken.g T.l_taken.F.kp T.l_taken.b .nil pass0 (pa_cons (pv 0) (pa_cons (pv 3) pa_nil))) pe_int (nomark _))) (fun _ _ _ _ _ => pv 5))
      (pss_cons (ps_if (pt_cmpR op_eq (pe_call GT hr (by rfl) T.l_taken.g T.l_taken.F.kp T.l_taken.b .nil pass0 (pa_cons (pv 0) (pa_cons pe_int pa_nil))) pe_int (nomark _))
          (pss_one (ps_setLc (i := 4) (own := [("_law_pair", 5)]) (g := gName 5) rfl sc_l_company.nd rfl rfl (sw_true rfl rfl rfl (by decide +kernel)) (pi_list (pv 4))
            (blkOk_by (N := ["_law_row", "_law_most", "_law_many", "_law_ways", "_law_pairs_here", "_law_pair"]) (sc := defScope s_l_company) (by decide +kernel)) (fun _ _ _ _ _ => pg_name (i := 5) sc_l_company.nd rfl (.inl rfl))
            (fun _ _ _ _ _ => pts_one (pt_cmpR op_lt (pe_op op_sub (pe_ix (r := rIxT K) ix_tup (pv 5) pe_int (fun _ _ => rfl)) (pe_ix (r := rIxT K) ix_tup (pv 5) pe_int (fun _ _ => rfl))) pe_int (nomark _))) (fun _ _ _ _ _ => pv 5))) pss_nil)
      (pss_one (ps_ret (pe_tup (pa_cons (pv 2) (pa_cons (pe_callTy call_tuple_of (by rfl) T.z_tuple (by decide +kernel) (pa_cons (pv 4) pa_nil)) pa_nil))))))), ?_⟩
    have r1 := rp_taken (K := K) (S := S) (r := r) (B := cut r H) (σ := L2.start ["_law_row", "_law_most", "_law_many", "_law_ways", "_law_pairs_here", "_law_pair"] [.ref r, .int 4]) (tm := tVar 1) (E := E0) (i := 0) (m := 4) rfl (ev_var rfl) (by decide) (by decide)
    refine r1 H cut_sub hR _ fun v H1 e1 R1 ⟨t, hv, ht⟩ => ?_
    subst hv
    refine ⟨1, (t : Int), rfl, rfl, ?_⟩
    obtain ⟨n, en⟩ : ∃ n : Nat, n = t + 1 := ⟨_, rfl⟩
    have em : (1 + (t : Int)) = (n : Int) := by omega
    have hn1 : 1 ≤ n := by omega
    have hn4 : n ≤ 4 := by omega
    refine ⟨show (3 : Nat) ≤ sizeLine by decide, fun p hp => ?_⟩
    have pr := R1.ne hp
    have R1' : Row K S r (upd H1 p (.lst [.int 2, .int 3, .int 5])) := R1.mono (Ex.new hp)
    have e1' : ExR r H (upd H1 p (.lst [.int 2, .int 3, .int 5])) := e1.trans (toR (Ex.new hp))
    refine rp_taken (B := cut r (upd H1 p (.lst [.int 2, .int 3, .int 5]))) (i := 0) (m := 3) rfl ev_c (by decide) (by decide) _ cut_sub R1' _ fun v H2 e2 R2 ⟨u, hv, hu⟩ => ?_
    subst hv
    have b2 : H2 p = some (.lst [.int 2, .int 3, .int 5]) := e2 _ _ pr upd_same
    have hw : ∃ wy : Int, ([.int 2, .int 3, .int 5] : List V)[u]? = some (.int wy) ∧ 1 ≤ wy ∧ wy ≤ 1000000 := by
      have hu3 : u = 0 ∨ u = 1 ∨ u = 2 := by omega
      rcases hu3 with rfl | rfl | rfl
      · exact ⟨2, rfl, by decide, by decide⟩
      · exact ⟨3, rfl, by decide, by decide⟩
      · exact ⟨5, rfl, by decide, by decide⟩
    obtain ⟨wy, hw1, hw2, hw3⟩ := hw
    refine ⟨p, _, (u : Int), .int wy, rfl, rfl, sq_of b2, atI_nat hw1, show (2 : Nat) ≤ sizeLine by decide, fun p2 hp2 => ?_⟩
    refine ⟨p2, _, rfl, st_of upd_same, rfl, .int (1 + (t : Int)), [.int wy], rfl, .int wy, [], rfl, rfl, ?_⟩
    have R3 : Row K S r (upd H2 p2 (.tup [.int (1 + (t : Int)), .int wy])) := R2.mono (Ex.new hp2)
    have e3 : ExR r H (upd H2 p2 (.tup [.int (1 + (t : Int)), .int wy])) := (e1'.trans e2).trans (toR (Ex.new hp2))
    generalize upd H2 p2 (.tup [.int (1 + (t : Int)), .int wy]) = H3 at R3 e3
    -- the pairs
    refine ⟨_, rfl, n, by rw [← em]; rfl, hn4, fun v H4 e4 ⟨pl, xs, hv, hpl, rs, hxs, hrl, hra⟩ => ?_⟩
    subst hv
    refine ⟨pl, rfl, ⟨xs, sq_of hpl⟩, fun Dl hD => ?_⟩
    have R4 := R3.mono e4
    have nr : Dl ≠ r := R4.ne hD
    obtain ⟨_, _, _, hrow, _⟩ := R4.ex
    have npl : pl ≠ r := fun z => by
      rw [z] at hpl
      rw [hpl] at hrow
      have hrow := HO.lst.inj (Option.some.inj hrow)
      rw [hxs] at hrow
      cases rs with
      | nil => cases hrow
      | cons a l =>
        cases l with
        | nil => cases hrow
        | cons b l => exact absurd (List.cons.inj (List.cons.inj hrow).2).1 (fun z => nomatch z)
    have key : ∀ (i : Nat) (a : Addr) (q : Nat × Nat), rs[i]? = some a → (allPairs n)[i]? = some q → cut r H4 a = some (.tup [.int (q.1 : Int), .int (q.2 : Int)]) := fun i a q h1 h2 => by
      have h := hra i a q h1 h2
      have na : a ≠ r := fun z => by rw [z, hrow] at h; cases h
      unfold Ow.cut
      rw [if_neg na]
      exact h
    have xl : xs.length = (allPairs n).length := by rw [hxs, List.length_map, hrl]
    have six := (allPairs_up n hn4).2
    refine lc_list (K := K) (xs := xs) (fun i H' => ExR r H4 H' ∧ Row K S r H' ∧ ∃ ks qs, H' Dl = some (.lst (ks.map V.ref)) ∧ Kept (cut r H4) (allPairs n) i ks qs) ⟨toR (Ex.new hD), R4.mono (Ex.new hD), [], [], upd_same, ⟨⟨rfl, fun i a p h => by cases h⟩, List.nil_sublist _⟩⟩ (fun i H' _ pv => sq_of (pv.1 _ _ npl hpl)) (fun i x H' hx pv => ?_) fun H' pv => ?_
    · obtain ⟨p1, p2, ks, qs, p3, p4⟩ := pv
      have hi : i < (allPairs n).length := by rw [← xl]; exact (List.getElem?_eq_some_iff.mp hx).1
      rw [hxs, List.getElem?_map] at hx
      have hir : i < rs.length := by rw [hrl]; exact hi
      have hri : rs[i]? = some rs[i] := List.getElem?_eq_getElem hir
      rw [hri] at hx
      have hx := Option.some.inj hx
      subst hx
      have hqi : (allPairs n)[i]? = some (allPairs n)[i] := List.getElem?_eq_getElem hi
      have ht := key i _ _ hri hqi
      refine ⟨rfl, ?_⟩
      refine rp_taken (B := cut r H') (i := 0) (m := wy) rfl (ev_var rfl) hw2 hw3 H' cut_sub p2 _ fun v H5 e5 R5 ⟨t2, hv, _⟩ => ?_
      subst hv
      refine ⟨(t2 : Int), 0, rfl, rfl, _, rfl, ?_⟩
      by_cases hc : (0 : Int) < t2
      · rw [decide_eq_true hc]
        refine iteT ⟨_, rfl, ks.map V.ref, e5 _ _ nr p3, sz_lt ?_, (p1.trans e5).mutN hD, R4.upd (p1.trans e5) R5 hD, ks ++ [rs[i]], _, by rw [upd_same, List.map_append]; rfl, p4.put hqi ht⟩
        rw [List.length_map, p4.at_.1]
        have := p4.sub.length_le
        rw [List.length_take] at this
        omega
      · rw [decide_eq_false hc]
        exact iteF ⟨p1.trans e5, R5, ks, qs, e5 _ _ nr p3, p4.skip⟩
    · obtain ⟨p1, p2, ks, qs, p3, p4⟩ := pv
      rw [xl] at p4
      have e5 : ExR r H H' := (e3.trans (toR e4)).trans p1
      have K1 : PAt (cut r H') ks qs := p4.at_.mono p1.cut
      have K2 : qs.Sublist (allPairs n) := by have := p4.sub; rwa [List.take_length] at this
      -- few of them
      have fin : ∀ (Hf : Hp) (l : Addr) (fs : List Addr) (gs : List (Nat × Nat)), ExR r H Hf → Row K S r Hf → cut r Hf l = some (.lst (fs.map V.ref)) → PAt (cut r Hf) fs gs → gs.Sublist (allPairs n) → 
          tRet (tTup (tCons (tVar 2) (tCons (tCB (fun xs H Q => ∃ p ys, xs = [.ref p] ∧ ((SqL K H p ys ∧ ∀ l, H l = none → Q (.ref l) (upd H l (.tup ys))) ∨ (SqT K H p ys ∧ Q (.ref p) H))) (tCons (tVar 4) tNil)) tNil))) { nx := fun _ H' => Q .non H', rt := Q } [some (.ref r), some (.int 4), some (.int (1 + (t : Int))), some (.int wy), some (.ref l), none] Hf := fun Hf l fs gs f1 f2 f3 f4 f5 => by
        refine ⟨_, rfl, ⟨_, rfl, l, _, rfl, .inl ⟨sq_of (cut_sub _ _ f3), fun p5 hp5 => ⟨show (2 : Nat) ≤ sizeLine by decide, fun p6 hp6 => ?_⟩⟩⟩⟩
        have R7 : Row K S r (upd Hf p5 (.tup (fs.map V.ref))) := f2.mono (Ex.new hp5)
        have R6 := R7.mono (Ex.new (o := .tup [.int (1 + (t : Int)), .ref p5]) hp6)
        have n5 := f2.ne hp5
        have n6 := R7.ne hp6
        refine k _ _ ((f1.trans (toR (Ex.new hp5))).trans (toR (Ex.new hp6))) R6 ⟨p6, n, gs, rfl, n6, ⟨p5, fs, ?_, ?_, f4.1, fun i a q h1 h2 => ?_⟩, vc_of hn1 hn4 f5⟩
        · unfold Ow.cut
          rw [if_neg n6, ← em]
          exact upd_same
        · unfold Ow.cut
          rw [if_neg n5]
          exact Ex.new hp6 _ _ upd_same
        · exact ((toR (Ex.new hp5)).trans (toR (Ex.new hp6))).cut _ _ (f4.2 i a q h1 h2)
      have R0 : Row K S r H' := p2
      refine rp_taken (B := cut r H') (i := 0) (m := 4) rfl ev_c (by decide) (by decide) H' cut_sub R0 _ fun v H6 e6 R6 ⟨t3, hv, _⟩ => ?_
      subst hv
      have d6 : ∀ b o, b ≠ r → H' b = some o → cut r H6 b = some o := fun b o nb hb => by
        unfold Ow.cut
        rw [if_neg nb]
        exact e6 _ _ nb hb
      have K6 : PAt (cut r H6) ks qs := K1.mono e6.cut
      have cm : cut r H6 Dl = some (.lst (ks.map V.ref)) := d6 _ _ nr p3
      refine ⟨rfl, _, rfl, ?_⟩
      by_cases hc : V.int (t3 : Int) = V.int 0
      · rw [decide_eq_true hc]
        refine iteT ⟨_, rfl, Dl, rfl, ⟨ks.map V.ref, sq_of (cut_sub _ _ cm)⟩, fun D2 hD2 => ?_⟩
        have n2 := R6.ne hD2
        have kl : (ks.map V.ref).length = qs.length := by rw [List.length_map, K1.1]
        have q6 : qs.length ≤ 6 := Nat.le_trans K2.length_le six
        refine lc_list (K := K) (xs := ks.map V.ref) (fun i H' => Ex H6 H' ∧ ∃ k2 q2, H' D2 = some (.lst (k2.map V.ref)) ∧ Kept (cut r H6) qs i k2 q2) ⟨Ex.new hD2, [], [], upd_same, ⟨⟨rfl, fun i a p h => by cases h⟩, List.nil_sublist _⟩⟩ (fun i H' _ pv => sq_of (pv.1 _ _ (cut_sub _ _ cm))) (fun i x H' hx pv => ?_) fun H' pv => ?_
        · obtain ⟨p1, k2, q2, p3, p4⟩ := pv
          have hi : i < qs.length := by rw [← kl]; exact (List.getElem?_eq_some_iff.mp hx).1
          rw [List.getElem?_map] at hx
          have hik : i < ks.length := by rw [K1.1]; exact hi
          have hri : ks[i]? = some ks[i] := List.getElem?_eq_getElem hik
          rw [hri] at hx
          have hx := Option.some.inj hx
          subst hx
          have hqi : qs[i]? = some qs[i] := List.getElem?_eq_getElem hi
          have ht := K6.2 i _ _ hri hqi
          have ht' := p1 _ _ (cut_sub _ _ ht)
          refine ⟨rfl, ?_⟩
          refine ⟨_, rfl, _, _, 1, .int (qs[i].2 : Int), rfl, rfl, st_of ht', rfl, _, rfl, _, _, 0, .int (qs[i].1 : Int), rfl, rfl, st_of ht', rfl, _, _, rfl, rfl, _, _, rfl, rfl, _, rfl, ?_⟩
          by_cases hc2 : ((qs[i].2 : Int) - (qs[i].1 : Int)) < 2
          · rw [decide_eq_true hc2]
            refine iteT ⟨_, rfl, k2.map V.ref, p3, sz_lt ?_, Ex.mut p1 hD2, k2 ++ [ks[i]], _, by rw [upd_same, List.map_append]; rfl, p4.put hqi ht⟩
            rw [List.length_map, p4.at_.1]
            have := p4.sub.length_le
            rw [List.length_take] at this
            omega
          · rw [decide_eq_false hc2]
            exact iteF ⟨p1, k2, q2, p3, p4.skip⟩
        · obtain ⟨p1, k2, q2, p3, p4⟩ := pv
          rw [kl] at p4
          have s2 : q2.Sublist qs := by have := p4.sub; rwa [List.take_length] at this
          refine fin H' D2 k2 q2 ((e5.trans e6).trans (toR p1)) (R6.mono p1) ?_ (p4.at_.mono (toR p1).cut) (s2.trans K2)
          unfold Ow.cut
          rw [if_neg n2]
          exact p3
      · rw [decide_eq_false hc]
        exact iteF (fin H6 Dl ks qs (e5.trans e6) R6 cm K6 K2)
end
end Ow

namespace Ow
open PySem PySem.Spec PyProof.Rows L2 Evl
section
variable {K : PySem.W.Frag} {σ : L2.St} {H H' : Hp} {ta tb tc te tl : TE}
/-- a known list + a new one -/
theorem evp_cat {p : Addr} {xs : List V} {Z : List V → Hp → Prop} {n : Nat} (ha : Ev ta σ H (.ref p)) (hp : H p = some (.lst xs)) (hb : EvP tb σ H fun v H2 => ∃ q zs, v = .ref q ∧ H2 q = some (.lst zs) ∧ zs.length ≤ n ∧ Z zs H2) (hz : xs.length + n ≤ 100000) (hZ : ∀ zs H1 H2, Ex H1 H2 → Z zs H1 → Z zs H2) :
    EvP (tOp rCat ta tb) σ H fun v H2 => ∃ q zs, v = .ref q ∧ H2 q = some (.lst (xs ++ zs)) ∧ zs.length ≤ n ∧ Z zs H2 := fun H1 e Q q =>
  ha H1 e _ fun H2 e2 => hb H2 (e.trans e2) _ fun v H3 e3 ⟨b, zs, hv, h3, hn, z3⟩ => ⟨p, b, xs, zs, rfl, hv, ((e.trans e2).trans e3) _ _ hp, h3, sz_of (by omega), fun l hl =>
    q _ _ ((e2.trans e3).trans (Ex.new hl)) ⟨l, zs, rfl, upd_same, hn, hZ _ _ _ (Ex.new hl) z3⟩⟩
end
theorem PAt.upd {H : Hp} {rs : List Addr} {ps : List (Nat × Nat)} {D : Addr} {l : List V} {o : HO} (h : PAt H rs ps) (hD : H D = some (.lst l)) : PAt (upd H D o) rs ps := ⟨h.1, fun i r p a b => by
  have z := h.2 i r p a b
  rw [upd_ne (fun e => by rw [e, hD] at z; cases z)]
  exact z⟩
theorem PAt.app {H : Hp} {rs rt : List Addr} {ps pt : List (Nat × Nat)} (h : PAt H rs ps) (g : PAt H rt pt) : PAt H (rs ++ rt) (ps ++ pt) := by
  refine ⟨by rw [List.length_append, List.length_append, h.1, g.1], fun i r p a b => ?_⟩
  by_cases hi : i < rs.length
  · rw [List.getElem?_append_left hi] at a
    rw [List.getElem?_append_left (by rw [← h.1]; exact hi)] at b
    exact h.2 i r p a b
  · rw [List.getElem?_append_right (by omega)] at a
    rw [List.getElem?_append_right (by rw [← h.1]; omega), ← h.1] at b
    exact g.2 _ r p a b
def rowP (n i : Nat) : List (Nat × Nat) := (List.range (n - (i + 1))).map fun j => (i, i + 1 + j)
def pairsTo (n i : Nat) : List (Nat × Nat) := (List.range i).flatMap (rowP n)
theorem pairsTo_succ (n i : Nat) : pairsTo n (i + 1) = pairsTo n i ++ rowP n i := by
  unfold pairsTo
  rw [List.range_succ, List.flatMap_append]
  simp
theorem pairsTo_len {n i : Nat} (hn : n ≤ 4) (hi : i ≤ 4) : (pairsTo n i).length ≤ 4 * i := by
  induction i with
  | zero => exact Nat.le_refl _
  | succ i ih =>
    rw [pairsTo_succ, List.length_append]
    have := ih (by omega)
    have : (rowP n i).length ≤ 4 := by unfold rowP; rw [List.length_map, List.length_range]; omega
    omega
section
variable {P : Program} {w : World} {K : PySem.W.Frag} {mg : Str → Option Value} {base : Heap} (T : Txt K mg)
theorem ok_pairs : FnOk P w K mg base CX0 1 T.l_pairs.f T.l_pairs.d ["_law_many"] spPairs := by
  refine T.l_pairs.F.ok sc_l_pairs (fun vs H Q E h => ?_) (fun cdv A outer s H vs Q E hr h => ?_)
  · obtain ⟨n, rfl, _⟩ := h
    rfl
  · obtain ⟨n, rfl, hn, k⟩ := h
    refine ⟨_, pss_cons (ps_set (i := 1) sc_l_pairs.nd rfl (.inl rfl) (pe_lst pa_nil))
      (pss_cons (ps_for PassesOwn.never rfl (pi_range1 rfl T.z_range (pa_cons (pv 0) pa_nil)) (pg_name (i := 2) sc_l_pairs.nd rfl (.inr rfl))
        (pss_one (ps_set (i := 1) sc_l_pairs.nd rfl (.inl rfl) (pe_op op_cat (pv 1)
          (pe_lc (own := [("_law_other", 3)]) (g := gName 3) rfl sc_l_pairs.nd (pi_range2 rfl T.z_range (pa_cons (pe_op op_add (pv 2) pe_int) (pa_cons (pv 0) pa_nil))) (blkOk_by (N := ["_law_many", "_law_found", "_law_one", "_law_other"]) (sc := defScope s_l_pairs) (by decide +kernel)) (fun _ _ _ _ _ => pg_name (i := 3) sc_l_pairs.nd rfl (.inl rfl))
            (fun _ _ _ _ _ => pts_nil) (fun _ _ _ _ _ => pe_tup (pa_cons (pv 2) (pa_cons (pv 3) pa_nil))))))))
      (pss_one (ps_ret (pv 1)))), ?_⟩
    refine q_asgL (el_lst ea_nil (by decide)) fun p H1 hp e1 h1 => ?_
    refine q_forX (evx_range1 (n := n) (ea_cons (ev_var rfl) ea_nil) (by omega)) (fun H0 xs i σ' H' => Ex H1 H0 ∧ Ex H0 H' ∧ ∃ p rs o, σ' = [some (.int (n : Int)), some (.ref p), o, none] ∧ H' p = some (.lst (rs.map V.ref)) ∧ PAt H' rs (pairsTo n i)) (fun H0 xs i σ' H' pv => pv.2.1)
      (fun xs H2 e2 _ => ⟨e2, Ex.refl _, p, [], none, rfl, e2 _ _ h1, rfl, fun i r q a => by cases a⟩) (fun H0 xs i x σ' H' e0 hI hx pv => ?_) (fun H0 xs σ' H' e0 hI pv => ?_)
    · obtain ⟨p0, p1, l, rs, o, hs, hl, ha⟩ := pv
      subst hs
      subst hI
      have hi : i < n := by have := (List.getElem?_eq_some_iff.mp hx).1; simpa using this
      rw [List.getElem?_map, List.getElem?_range hi] at hx
      have hx := Option.some.inj hx
      subst hx
      have len1 : rs.length ≤ 16 := by rw [ha.1]; have := pairsTo_len hn (by omega : i ≤ 4); omega
      have two : Ev (tOp (rI0 fun i j => .int (i + j)) (tVar 2) (tC (.int 1))) [some (.int (n : Int)), some (.ref l), some (.int ((i : Nat) : Int)), none] H' (.int (((i + 1 : Nat) : Nat) : Int)) := ev_is (ev_op (ev_var rfl) ev_c rv_I0) rfl
      refine s_asgP (evp_cat (n := 4) (Z := fun zs H3 => ∃ rt, zs = rt.map V.ref ∧ PAt H3 rt (rowP n i)) (ev_var rfl) hl ((evp_lc (I := fun ys _ => ys = (List.range (n - (i + 1))).map fun j => V.int (((i + 1 + j : Nat) : Nat) : Int)) (fun ys j acc H3 => ∃ rt, acc = rt.map V.ref ∧ PAt H3 rt ((rowP n i).take j)) (evx_range2 (lo := i + 1) (hi := n) (ea_cons two (ea_cons (ev_var rfl) ea_nil)) (by omega) (by omega)) (fun x => rfl)
        (fun ys j acc H3 H4 e ⟨rt, a, b⟩ => ⟨rt, a, b.mono e⟩) (fun ys j acc H3 D l o hD ⟨rt, a, b⟩ => ⟨rt, a, b.upd hD⟩) (fun ys H3 e _ => ⟨[], rfl, rfl, fun i r q a => by cases a⟩)
        (fun ys j x acc H3 H4 e hys e4 hx ⟨rt, a, b⟩ hl => ?_)).weak fun v H3 e3 ⟨p, ys, acc, hv, hp, ⟨H0, _, hys, _⟩, ⟨rt, a, b⟩, hl⟩ => ⟨p, acc, hv, hp, ?_, rt, a, ?_⟩) (by rw [List.length_map]; omega) (fun zs H3 H4 e ⟨rt, a, b⟩ => ⟨rt, a, b.mono e⟩)) fun v H3 e3 ⟨q, zs, hv, hq, hlen, rt, ha2, hb2⟩ => ?_
      · subst hys
        have hj : j < n - (i + 1) := by have := (List.getElem?_eq_some_iff.mp hx).1; simpa using this
        rw [List.getElem?_map, List.getElem?_range hj] at hx
        have hx := Option.some.inj hx
        subst hx
        refine ⟨by omega, true, et_yes, fun z => Bool.noConfusion z, fun _ => ?_⟩
        intro H5 e5 Q2 q2
        refine ⟨_, rfl, _, rfl, show (2 : Nat) ≤ sizeLine by decide, fun p5 hp5 => q2 _ _ (Ex.new hp5) ⟨rt ++ [p5], by rw [a, List.map_append]; rfl, ?_⟩⟩
        have tk : (rowP n i).take (j + 1) = (rowP n i).take j ++ [(i, i + 1 + j)] := by
          rw [List.take_add_one]
          unfold rowP
          rw [List.getElem?_map, List.getElem?_range hj]
          rfl
        rw [tk]
        exact (b.mono (e5.trans (Ex.new hp5))).snoc upd_same
      · subst hys
        rw [List.length_map, List.length_range] at hl
        omega
      · subst hys
        rw [List.length_map, List.length_range] at b
        rwa [List.take_of_length_le (by unfold rowP; rw [List.length_map, List.length_range]; exact Nat.le_refl _)] at b
      · subst hv
        exact ⟨p0, p1.trans e3, q, rs ++ rt, _, rfl, by rw [hq, ha2, List.map_append], by rw [pairsTo_succ]; exact (ha.mono e3).app hb2⟩
    · obtain ⟨p0, p1, l, rs, o, hs, hl, ha⟩ := pv
      subst hs
      subst hI
      rw [List.length_map, List.length_range] at ha
      exact s_ret (ev_var rfl) fun H2 e2 => k _ _ (((e1.trans p0).trans p1).trans e2) ⟨l, rs.map V.ref, rfl, e2 _ _ hl, rs, rfl, ha.1, fun i r p a b => (ha.mono e2).2 i r p a b⟩
end
end Ow

namespace Ow
open PySem PySem.Spec PyProof.Rows L2 Evl
/-- tuples at addresses -/
def GA {α : Type} (g : α → List V) (H : Hp) (rs : List Addr) (xs : List α) : Prop := rs.length = xs.length ∧ ∀ (i : Nat) (r : Addr) (x : α), rs[i]? = some r → xs[i]? = some x → H r = some (.tup (g x))
section
variable {α : Type} {g : α → List V} {H B : Hp} {rs rt : List Addr} {ps pt : List α}
theorem GA.nil : GA g H [] ([] : List α) := ⟨rfl, fun i r q a => by cases a⟩
theorem GA.mono (h : GA g B rs ps) (e : Ex B H) : GA g H rs ps := ⟨h.1, fun i r p a b => e _ _ (h.2 i r p a b)⟩
theorem GA.app (h : GA g H rs ps) (k : GA g H rt pt) : GA g H (rs ++ rt) (ps ++ pt) := by
  refine ⟨by rw [List.length_append, List.length_append, h.1, k.1], fun i r p a b => ?_⟩
  by_cases hi : i < rs.length
  · rw [List.getElem?_append_left hi] at a
    rw [List.getElem?_append_left (by rw [← h.1]; exact hi)] at b
    exact h.2 i r p a b
  · rw [List.getElem?_append_right (by omega)] at a
    rw [List.getElem?_append_right (by rw [← h.1]; omega), ← h.1] at b
    exact k.2 _ r p a b
theorem GA.one {r : Addr} {x : α} (h : H r = some (.tup (g x))) : GA g H [r] [x] := ⟨rfl, fun i r' p a b => by
  cases i with
  | zero => cases a; cases b; exact h
  | succ i => simp at a⟩
theorem GA.snoc {r : Addr} {x : α} (h : GA g H rs ps) (hr : H r = some (.tup (g x))) : GA g H (rs ++ [r]) (ps ++ [x]) := h.app (GA.one hr)
theorem GA.upd {D : Addr} {l : List V} {o : HO} (h : GA g H rs ps) (hD : H D = some (.lst l)) : GA g (upd H D o) rs ps := ⟨h.1, fun i r p a b => by
  have z := h.2 i r p a b
  rw [upd_ne (fun e => by rw [e, hD] at z; cases z)]
  exact z⟩
end
/-- sep.join(a list or a tuple) -/
def rJn (K : PySem.W.Frag) : V → List V → Hp → VK → Prop := fun x xs H Q => ∃ a p, ∃ ys : List Str, x = .str a ∧ xs = [.ref p] ∧ (SqL K H p (ys.map V.str) ∨ SqT K H p (ys.map V.str)) ∧ (ys.map (·.length)).sum + ys.length * a.length ≤ 16777216 ∧ Q (.str (Txt.join a ys)) H
def gI (S : List Nat) : List V := S.map fun j => V.int ((j : Nat) : Int)
theorem sets_len : ∀ n, (sets n).length = 2 ^ n
  | 0 => rfl
  | n + 1 => by
    show (sets n ++ (sets n).map (fun S => S ++ [n])).length = _
    rw [List.length_append, List.length_map, sets_len n, Nat.pow_succ]
    omega
theorem mem_sets : ∀ {n : Nat} {S : List Nat}, S ∈ sets n ↔ S.Pairwise (· < ·) ∧ ∀ x ∈ S, x < n
  | 0, S => by
    show S ∈ [[]] ↔ _
    rw [List.mem_singleton]
    refine ⟨fun h => by subst h; exact ⟨List.Pairwise.nil, fun x h => by cases h⟩, fun ⟨_, h⟩ => ?_⟩
    cases S with
    | nil => rfl
    | cons x r => exact absurd (h x List.mem_cons_self) (Nat.not_lt_zero _)
  | n + 1, S => by
    show S ∈ sets n ++ (sets n).map (fun S => S ++ [n]) ↔ _
    rw [List.mem_append]
    constructor
    · rintro (h | h)
      · obtain ⟨a, b⟩ := mem_sets.mp h
        exact ⟨a, fun x hx => Nat.lt_succ_of_lt (b x hx)⟩
      · obtain ⟨R, hR, rfl⟩ := List.mem_map.mp h
        obtain ⟨a, b⟩ := mem_sets.mp hR
        refine ⟨List.pairwise_append.mpr ⟨a, List.pairwise_singleton _ _, fun x hx y hy => by rw [List.mem_singleton] at hy; subst hy; exact b x hx⟩, fun x hx => ?_⟩
        rcases List.mem_append.mp hx with hx | hx
        · exact Nat.lt_succ_of_lt (b x hx)
        · rw [List.mem_singleton] at hx
          omega
    · rintro ⟨a, b⟩
      by_cases hn : n ∈ S
      · right
        rcases List.eq_nil_or_concat S with rfl | ⟨R, x, rfl⟩
        · cases hn
        · rw [List.concat_eq_append] at a b hn ⊢
          obtain ⟨a1, _, a3⟩ := List.pairwise_append.mp a
          have hx : x < n + 1 := b x (List.mem_append_right _ (List.mem_singleton.mpr rfl))
          have ex : x = n := by
            rcases List.mem_append.mp hn with h | h
            · have := a3 n h x (List.mem_singleton.mpr rfl)
              omega
            · rw [List.mem_singleton] at h
              exact h.symm
          subst ex
          exact List.mem_map.mpr ⟨R, mem_sets.mpr ⟨a1, fun y hy => a3 y hy _ (List.mem_singleton.mpr rfl)⟩, rfl⟩
      · left
        refine mem_sets.mpr ⟨a, fun x hx => ?_⟩
        have := b x hx
        have : x ≠ n := fun e => hn (e ▸ hx)
        omega
theorem sets_nodup : ∀ n : Nat, (sets n).Nodup
  | 0 => by show ([[]] : List (List Nat)).Nodup; simp
  | n + 1 => by
    show (sets n ++ (sets n).map (fun S => S ++ [n])).Nodup
    refine List.nodup_append.mpr ⟨sets_nodup n, ?_, fun a ha b hb e => ?_⟩
    · have := (sets_nodup n)
      refine List.Pairwise.map _ (fun a b h e => h (List.append_cancel_right e)) this
    · obtain ⟨R, hR, rfl⟩ := List.mem_map.mp hb
      have := (mem_sets.mp ha).2 n (by rw [e]; exact List.mem_append_right _ (List.mem_singleton.mpr rfl))
      omega
theorem asc_len : ∀ {S : List Nat} {lo n : Nat}, S.Pairwise (· < ·) → (∀ x ∈ S, lo ≤ x ∧ x < lo + n) → S.length ≤ n := fun {S lo n} h g => by
  have := nodup_len_le (u := S) (v := (List.range n).map (fun i => lo + i)) (asc_nodup h) fun x hx => by
    obtain ⟨a, b⟩ := g x hx
    exact List.mem_map.mpr ⟨x - lo, List.mem_range.mpr (by omega), by omega⟩
  simpa using this
theorem sets_few {n : Nat} {S : List Nat} (h : S ∈ sets n) : S.length ≤ n := by
  obtain ⟨a, b⟩ := mem_sets.mp h
  exact asc_len (lo := 0) a fun x hx => ⟨Nat.zero_le _, by have := b x hx; omega⟩
theorem mem_lots {n : Nat} {u : List Nat} : u ∈ lots n ↔ u.Pairwise (· < ·) ∧ Lt n u := by
  unfold lots
  rw [List.mem_map]
  constructor
  · rintro ⟨S, hS, rfl⟩
    obtain ⟨a, b⟩ := mem_sets.mp hS
    refine ⟨List.Pairwise.map _ (fun x y h => by show 97 + x < 97 + y; omega) a, fun x hx => ?_⟩
    obtain ⟨y, hy, rfl⟩ := List.mem_map.mp hx
    have := b y hy
    omega
  · rintro ⟨a, b⟩
    refine ⟨u.map fun x => x - 97, mem_sets.mpr ⟨?_, fun x hx => ?_⟩, ?_⟩
    · refine List.pairwise_map.mpr (a.imp_of_mem fun {x y} hx hy h => ?_)
      have := b x hx
      have := b y hy
      omega
    · obtain ⟨y, hy, rfl⟩ := List.mem_map.mp hx
      have := b y hy
      omega
    · rw [List.map_map]
      conv => rhs; rw [← List.map_id u]
      refine List.map_congr_left fun x hx => ?_
      have := b x hx
      show 97 + (x - 97) = x
      omega
theorem lots_nodup (n : Nat) : (lots n).Nodup := by
  unfold lots
  refine List.Pairwise.map _ (fun a b h e => h ?_) (sets_nodup n)
  have inj : ∀ {a b : List Nat}, a.map (fun j => 97 + j) = b.map (fun j => 97 + j) → a = b := fun {a b} e => by
    have := congrArg (List.map (fun x => x - 97)) e
    rw [List.map_map, List.map_map] at this
    have id1 : ((fun x => x - 97) ∘ fun j => 97 + j) = (id : Nat → Nat) := by
      funext j
      show 97 + j - 97 = j
      omega
    rwa [id1, List.map_id, List.map_id] at this
  exact inj e
section
variable {P : Program} {w : World} {K : PySem.W.Frag} {mg : Str → Option Value} {base : Heap} (T : Txt K mg)
theorem ok_sets : FnOk P w K mg base CX0 1 T.l_sets.f T.l_sets.d ["_law_many"] spSets := by
  refine T.l_sets.F.ok sc_l_sets (fun vs H Q E h => ?_) (fun cdv A outer s H vs Q E hr h => ?_)
  · obtain ⟨n, rfl, _⟩ := h
    rfl
  · obtain ⟨n, rfl, hn, k⟩ := h
    refine ⟨_, pss_cons (ps_set (i := 1) sc_l_sets.nd rfl (.inl rfl) (pe_lst (pa_cons (pe_tup pa_nil) pa_nil)))
      (pss_cons (ps_for PassesOwn.never rfl (pi_range1 rfl T.z_range (pa_cons (pv 0) pa_nil)) (pg_name (i := 2) sc_l_sets.nd rfl (.inr rfl))
        (pss_one (ps_set (i := 1) sc_l_sets.nd rfl (.inl rfl) (pe_op op_cat (pv 1)
          (pe_lc (own := [("_law_told", 3)]) (g := gName 3) rfl sc_l_sets.nd (pi_list (pv 1)) (blkOk_by (N := ["_law_many", "_law_found", "_law_place", "_law_told"]) (sc := defScope s_l_sets) (by decide +kernel)) (fun _ _ _ _ _ => pg_name (i := 3) sc_l_sets.nd rfl (.inl rfl))
            (fun _ _ _ _ _ => pts_nil) (fun _ _ _ _ _ => pe_op (r := rCatA K) op_catA (pv 3) (pe_tup (pa_cons (pv 2) pa_nil))))))))
      (pss_one (ps_ret (pv 1)))), ?_⟩
    refine q_asgP (P := fun v H2 => ∃ p a, v = .ref p ∧ H2 p = some (.lst [.ref a]) ∧ H2 a = some (.tup [])) ?_ fun v H1 e1 ⟨p, a0, hv, h1, ha0⟩ => ?_
    · intro H1 e1 Q2 q2
      refine ⟨show (0 : Nat) ≤ sizeLine by decide, fun a ha => ⟨show (1 : Nat) ≤ sizeLine by decide, fun p hp => ?_⟩⟩
      exact q2 _ _ ((Ex.new ha).trans (Ex.new hp)) ⟨p, a, rfl, upd_same, Ex.new hp _ _ upd_same⟩
    subst hv
    refine q_forX (evx_range1 (n := n) (ea_cons (ev_var rfl) ea_nil) (by omega)) (fun H0 xs i σ' H' => Ex H1 H0 ∧ Ex H0 H' ∧ ∃ p rs o, σ' = [some (.int (n : Int)), some (.ref p), o, none] ∧ H' p = some (.lst (rs.map V.ref)) ∧ GA gI H' rs (sets i)) (fun H0 xs i σ' H' pv => pv.2.1)
      (fun xs H2 e2 _ => ⟨e2, Ex.refl _, p, [a0], none, rfl, e2 _ _ h1, GA.one (e2 _ _ ha0)⟩) (fun H0 xs i x σ' H' e0 hI hx pv => ?_) (fun H0 xs σ' H' e0 hI pv => ?_)
    · obtain ⟨p0, p1, l, rs, o, hs, hl, ha⟩ := pv
      subst hs
      subst hI
      have hi : i < n := by have := (List.getElem?_eq_some_iff.mp hx).1; simpa using this
      rw [List.getElem?_map, List.getElem?_range hi] at hx
      have hx := Option.some.inj hx
      subst hx
      have len1 : rs.length ≤ 16 := by
        rw [ha.1, sets_len]
        have : (2 : Nat) ^ i ≤ 2 ^ 4 := Nat.pow_le_pow_right (by decide) (by omega)
        omega
      refine s_asgP (evp_cat (n := 16) (Z := fun zs H3 => ∃ rt, zs = rt.map V.ref ∧ GA gI H3 rt ((sets i).map fun S => S ++ [i])) (ev_var rfl) hl ((evp_lc (I := fun ys _ => ys = rs.map V.ref) (fun ys j acc H3 => ∃ rt, acc = rt.map V.ref ∧ GA gI H3 rt (((sets i).map fun S => S ++ [i]).take j)) (evx_list (ev_var rfl) (sq_of hl)) (fun x => rfl)
        (fun ys j acc H3 H4 e ⟨rt, a, b⟩ => ⟨rt, a, b.mono e⟩) (fun ys j acc H3 D l o hD ⟨rt, a, b⟩ => ⟨rt, a, b.upd hD⟩) (fun ys H3 e _ => ⟨[], rfl, GA.nil⟩)
        (fun ys j x acc H3 H4 e hys e4 hx ⟨rt, a, b⟩ hl => ?_)).weak fun v H3 e3 ⟨p, ys, acc, hv, hp, ⟨H0, _, hys, _⟩, ⟨rt, a, b⟩, hl⟩ => ⟨p, acc, hv, hp, ?_, rt, a, ?_⟩) (by rw [List.length_map]; omega) (fun zs H3 H4 e ⟨rt, a, b⟩ => ⟨rt, a, b.mono e⟩)) fun v H3 e3 ⟨q, zs, hv, hq, hlen, rt, ha2, hb2⟩ => ?_
      · subst hys
        have hj : j < rs.length := by have := (List.getElem?_eq_some_iff.mp hx).1; simpa using this
        have hjs : j < (sets i).length := by rw [← ha.1]; exact hj
        rw [List.getElem?_map, List.getElem?_eq_getElem hj] at hx
        have hx := Option.some.inj hx
        subst hx
        have ht := (ha.mono (e.trans e4)).2 j _ _ (List.getElem?_eq_getElem hj) (List.getElem?_eq_getElem hjs)
        have tk : ((sets i).map fun S => S ++ [i]).take (j + 1) = ((sets i).map fun S => S ++ [i]).take j ++ [(sets i)[j] ++ [i]] := by
          rw [List.take_add_one, List.getElem?_map, List.getElem?_eq_getElem hjs]
          rfl
        refine ⟨by omega, true, et_yes, fun z => Bool.noConfusion z, fun _ => ?_⟩
        intro H5 e5 Q2 q2
        rw [tk] at q2
        refine ⟨_, rfl, _, rfl, show (1 : Nat) ≤ sizeLine by decide, fun p5 hp5 => ?_⟩
        have n5 : Ex H5 (upd H5 p5 (.tup [.int ((i : Nat) : Int)])) := Ex.new hp5
        refine ⟨_, p5, gI (sets i)[j], [.int ((i : Nat) : Int)], rfl, rfl, st_of (n5 _ _ (e5 _ _ ht)), st_of upd_same, ?_, fun hz => ?_, fun _ hz => (by cases hz), fun _ _ p6 hp6 => ?_⟩
        · have l1 : ((sets i)[j]).length ≤ i := sets_few (List.getElem_mem hjs)
          have l2 : (gI (sets i)[j]).length = ((sets i)[j]).length := by unfold gI; rw [List.length_map]
          rw [l2]
          exact sz_of (by show _ + 1 ≤ 100000; omega)
        · refine q2 _ _ n5 ⟨rt ++ [p5], by rw [a, List.map_append]; rfl, (b.mono (e5.trans n5)).snoc ?_⟩
          rw [upd_same]
          have : (sets i)[j] = [] := by
            unfold gI at hz
            exact List.map_eq_nil_iff.mp hz
          rw [this]
          rfl
        · refine q2 _ _ (n5.trans (Ex.new hp6)) ⟨rt ++ [p6], by rw [a, List.map_append]; rfl, (b.mono (e5.trans (n5.trans (Ex.new hp6)))).snoc ?_⟩
          rw [upd_same]
          unfold gI
          rw [List.map_append]
          rfl
      · subst hys
        rw [List.length_map] at hl
        omega
      · subst hys
        rw [List.length_map, ha.1] at b
        rwa [List.take_of_length_le (by rw [List.length_map]; exact Nat.le_refl _)] at b
      · subst hv
        exact ⟨p0, p1.trans e3, q, rs ++ rt, _, rfl, by rw [hq, ha2, List.map_append], (ha.mono e3).app hb2⟩
    · obtain ⟨p0, p1, l, rs, o, hs, hl, ha⟩ := pv
      subst hs
      subst hI
      rw [List.length_map, List.length_range] at ha
      exact s_ret (ev_var rfl) fun H2 e2 => k _ _ (((e1.trans p0).trans p1).trans e2) ⟨l, rs.map V.ref, rfl, e2 _ _ hl, rs, rfl, ha.1, fun i r p a b => (ha.mono e2).2 i r p a b⟩
theorem ok_lots (GS : FnOk P w K mg base CX0 1 T.l_sets.f T.l_sets.d ["_law_many"] spSets) : FnOk P w K mg base CX0 2 T.l_lots.f T.l_lots.d ["_law_many"] spLots := by
  refine T.l_lots.F.ok sc_l_lots (fun vs H Q E h => ?_) (fun cdv A outer s H vs Q E hr h => ?_)
  · obtain ⟨n, rfl, _⟩ := h
    rfl
  · obtain ⟨n, rfl, hn, k⟩ := h
    refine ⟨_, pss_one (ps_ret (pe_lc (own := [("_law_places", 2)]) (g := gName 2) (te := tM1 (rJn K) (tC (.str (Str.ofString ""))) (tLc (iTup K (tVar 2)) (gName 1) tYes (tOp rIxS (tC (.str (Str.ofString "abcdefg"))) (tVar 1)) [1])) rfl sc_l_lots.nd (pi_list (pe_call GS hr (by rfl) T.l_sets.g T.l_sets.F.kp T.l_sets.b .nil pass0 (pa_cons (pv 0) pa_nil))) (blkOk_by (N := ["_law_many", "_law_at", "_law_places"]) (sc := defScope s_l_lots) (by decide +kernel)) (fun _ _ _ _ _ => pg_name (i := 2) sc_l_lots.nd rfl (.inl rfl))
      (fun _ _ _ _ _ => pts_nil) (fun _ _ _ _ _ => pe_join pe_str (pe_lc (own := [("_law_at", 1)]) (g := gName 1) rfl sc_l_lots.nd (pi_tup (pv 2)) (blkOk_by (N := ["_law_many", "_law_at", "_law_places"]) (sc := relS { kind := .function, names := [(".0", .local), ("_law_places", .local)], isGenerator := false, isCoroutine := false } (defScope s_l_lots)) (by decide +kernel)) (fun _ _ _ _ _ => pg_name (i := 1) sc_l_lots.nd rfl (.inl rfl))
        (fun _ _ _ _ _ => pts_nil) (fun _ _ _ _ _ => pe_ix ix_str pe_str (pv 1) (fun _ _ => rfl)))))), ?_⟩
    refine s_retP (evp_lc (I := fun ys H2 => ∃ rs, ys = rs.map V.ref ∧ GA gI H2 rs (sets n)) (fun ys j acc H3 => acc = txs ((lots n).take j)) (evx_listP ?_) (fun x => rfl) (fun ys j acc H3 H4 e a => a) (fun ys j acc H3 D l o hD a => a) (fun ys H3 e _ => rfl) (fun ys j x acc H3 H4 e hys e4 hx a hl => ?_)) fun v H3 e3 ⟨p, ys, acc, hv, hp, ⟨H0, _, ⟨rs, hys, hga⟩, _⟩, a, hl⟩ => ?_
    · refine (evp_call (ea_cons (ev_var rfl) ea_nil) fun H1 e Q q E => ⟨n, rfl, hn, q⟩).weak fun v H2 e2 ⟨p, xs, hv, hp, hxs⟩ => ?_
      obtain ⟨rs, h1, h2, h3⟩ := hxs
      exact ⟨p, xs, hv, hp, rs, h1, h2, h3⟩
    · obtain ⟨rs, hys, hga⟩ := hys
      subst hys
      have hj : j < rs.length := by have := (List.getElem?_eq_some_iff.mp hx).1; simpa using this
      have hjs : j < (sets n).length := by rw [← hga.1]; exact hj
      rw [List.getElem?_map, List.getElem?_eq_getElem hj] at hx
      have hx := Option.some.inj hx
      subst hx
      have ht := (hga.mono e4).2 j _ _ (List.getElem?_eq_getElem hj) (List.getElem?_eq_getElem hjs)
      have hmem : (sets n)[j] ∈ sets n := List.getElem_mem hjs
      generalize hS : (sets n)[j] = S at ht hmem
      obtain ⟨s1, s2⟩ := mem_sets.mp hmem
      have s3 := sets_few hmem
      have j16 : (sets n).length ≤ 16 := by
        rw [sets_len]
        have : (2 : Nat) ^ n ≤ 2 ^ 4 := Nat.pow_le_pow_right (by decide) hn
        omega
      refine ⟨by omega, true, et_yes, fun z => Bool.noConfusion z, fun _ => ?_⟩
      have tk : txs ((lots n).take (j + 1)) = txs ((lots n).take j) ++ [V.str (tx (S.map fun j => 97 + j))] := by
        rw [List.take_add_one]
        unfold lots
        rw [List.getElem?_map, List.getElem?_eq_getElem hjs, hS]
        unfold txs
        rw [List.map_append]
        rfl
      refine EvP.weak (Ev.toP (v := V.str (tx (S.map fun j => 97 + j))) ?_) fun v H5 e5 hv => by rw [hv, tk, a]
      rw [← flat_ones (S.map fun j => 97 + j)]
      refine ev_join (by rw [← tx_nil]; exact ev_c) ?_ ?_
      · rw [txs_ones, List.map_map]
        have := el_lcF S (fun j => V.int ((j : Nat) : Int)) (fun _ => true) (fun j => V.str (tx [97 + j])) (wi := iTup K (tVar 2)) (tt := tYes) (te := tOp rIxS (tC (.str (Str.ofString "abcdefg"))) (tVar 1)) (σ := (wipe (L2.start ["_law_many", "_law_at", "_law_places"] [.int (n : Int)]) [2]).set 2 (some (.ref rs[j]))) (H := H4) (j := 1) (vs := [1])
          (evx_tup (ev_var rfl) (st_of ht)) (by omega) (fun x => rfl) (fun z H6 _ _ => et_yes) (fun z H6 hz _ _ => ?_)
        · have ft : S.filter (fun _ => true) = S := List.filter_eq_self.mpr fun _ _ => rfl
          rw [ft] at this
          exact this
        · have h7 : z < 7 := by have := s2 z hz; omega
          refine ev_op ev_c (ev_var rfl) (rv_ixS (by decide) ?_)
          rw [tx_abc, tx_list]
          refine atI_nat ?_
          have : ∀ u : Nat, u < 7 → ([97, 98, 99, 100, 101, 102, 103] : List Nat)[u]? = some (97 + u) := by decide
          exact this z h7
      · rw [sum_ones, List.length_map]
        omega
    · subst hys
      rw [List.length_map, hga.1] at a
      have : (lots n).length = (sets n).length := by unfold lots; rw [List.length_map]
      rw [← this, List.take_length] at a
      exact k _ _ e3 ⟨p, hv, by rw [hp, a]⟩
end
end Ow

namespace Ow
open PySem PySem.Spec PyProof.Rows L2 Evl
def longer (S t : List Nat) : List (List Nat) := (S.filter fun c => !t.contains c).map fun c => t ++ [c]
def ordN (S : List Nat) : Nat → List (List Nat)
  | 0 => [[]]
  | i + 1 => (ordN S i).flatMap (longer S)
theorem mem_longer {S t o : List Nat} : o ∈ longer S t ↔ ∃ c, c ∈ S ∧ c ∉ t ∧ o = t ++ [c] := by
  unfold longer
  rw [List.mem_map]
  constructor
  · rintro ⟨c, h, rfl⟩
    obtain ⟨a, b⟩ := List.mem_filter.mp h
    exact ⟨c, a, by simpa using b, rfl⟩
  · rintro ⟨c, a, b, rfl⟩
    exact ⟨c, List.mem_filter.mpr ⟨a, by simpa using b⟩, rfl⟩
theorem mem_ordN {S : List Nat} : ∀ {i : Nat} {o : List Nat}, o ∈ ordN S i ↔ o.Nodup ∧ (∀ x ∈ o, x ∈ S) ∧ o.length = i
  | 0, o => by
    show o ∈ [[]] ↔ _
    rw [List.mem_singleton]
    refine ⟨fun h => by subst h; exact ⟨List.nodup_nil, fun x h => by (cases h), rfl⟩, fun ⟨_, _, h⟩ => List.length_eq_zero_iff.mp h⟩
  | i + 1, o => by
    show o ∈ (ordN S i).flatMap (longer S) ↔ _
    rw [List.mem_flatMap]
    constructor
    · rintro ⟨t, ht, ho⟩
      obtain ⟨c, c1, c2, rfl⟩ := mem_longer.mp ho
      obtain ⟨a, b, l⟩ := mem_ordN.mp ht
      refine ⟨List.nodup_append.mpr ⟨a, by simp, fun x hx y hy e => ?_⟩, fun x hx => ?_, by rw [List.length_append, l]; rfl⟩
      · rw [List.mem_singleton] at hy
        exact c2 (by rw [← hy, ← e]; exact hx)
      · rcases List.mem_append.mp hx with hx | hx
        · exact b x hx
        · rw [List.mem_singleton] at hx
          rw [hx]
          exact c1
    · rintro ⟨a, b, l⟩
      rcases List.eq_nil_or_concat o with rfl | ⟨t, c, rfl⟩
      · cases l
      · rw [List.concat_eq_append] at a b l ⊢
        obtain ⟨a1, a2⟩ := nodup_snoc a
        refine ⟨t, mem_ordN.mpr ⟨a1, fun x hx => b x (List.mem_append_left _ hx), by rw [List.length_append, List.length_singleton] at l; omega⟩, mem_longer.mpr ⟨c, b c (List.mem_append_right _ (List.mem_singleton.mpr rfl)), a2, rfl⟩⟩
theorem longer_len (S t : List Nat) : (longer S t).length ≤ S.length := by
  unfold longer
  rw [List.length_map]
  exact List.length_filter_le _ _
theorem flat_len {S : List Nat} (hS : S.length ≤ 4) : ∀ l : List (List Nat), (l.flatMap (longer S)).length ≤ 4 * l.length
  | [] => Nat.le_refl _
  | t :: r => by
    rw [List.flatMap_cons, List.length_append, List.length_cons]
    have := longer_len S t
    have := flat_len hS r
    omega
theorem ordN_len {S : List Nat} (hS : S.length ≤ 4) : ∀ i, (ordN S i).length ≤ 4 ^ i
  | 0 => Nat.le_refl _
  | i + 1 => by
    show ((ordN S i).flatMap (longer S)).length ≤ _
    have := flat_len hS (ordN S i)
    have := ordN_len hS i
    rw [Nat.pow_succ]
    omega
theorem longer_few {S t : List Nat} (h1 : t.Nodup) (h2 : ∀ x ∈ t, x ∈ S) (hS : S.Nodup) : (longer S t).length + t.length ≤ S.length := by
  unfold longer
  rw [List.length_map, ← List.length_append]
  refine nodup_len_le (List.nodup_append.mpr ⟨nodup_filter _ hS, h1, fun a ha b hb e => ?_⟩) fun x hx => ?_
  · subst e
    have := (List.mem_filter.mp ha).2
    simp at this
    exact this hb
  · exact (List.mem_append.mp hx).elim (fun h => (List.mem_filter.mp h).1) (h2 x)
theorem flat_few {S : List Nat} {k : Nat} : ∀ l : List (List Nat), (∀ t ∈ l, (longer S t).length ≤ k) → (l.flatMap (longer S)).length ≤ l.length * k
  | [], _ => Nat.zero_le _
  | t :: r, h => by
    rw [List.flatMap_cons, List.length_append, List.length_cons, Nat.succ_mul]
    have := h t List.mem_cons_self
    have := flat_few r fun t ht => h t (List.mem_cons_of_mem _ ht)
    omega
theorem ordN_step {S : List Nat} (hS : S.Nodup) (i : Nat) : (ordN S (i + 1)).length ≤ (ordN S i).length * (S.length - i) :=
  flat_few _ fun t ht => by
    obtain ⟨a, b, c⟩ := mem_ordN.mp ht
    have := longer_few a b hS
    omega
theorem ordN_24 {S : List Nat} (hS : S.Nodup) (h4 : S.length ≤ 4) : (ordN S S.length).length ≤ 24 := by
  have s0 : (ordN S 1).length ≤ (ordN S 0).length * (S.length - 0) := ordN_step hS 0
  have s1 : (ordN S 2).length ≤ (ordN S 1).length * (S.length - 1) := ordN_step hS 1
  have s2 : (ordN S 3).length ≤ (ordN S 2).length * (S.length - 2) := ordN_step hS 2
  have s3 : (ordN S 4).length ≤ (ordN S 3).length * (S.length - 3) := ordN_step hS 3
  have z : (ordN S 0).length = 1 := rfl
  have hl : S.length = 0 ∨ S.length = 1 ∨ S.length = 2 ∨ S.length = 3 ∨ S.length = 4 := by omega
  rcases hl with h | h | h | h | h <;> rw [h] at s0 s1 s2 s3 ⊢ <;> omega
theorem ords_of {S : List Nat} (hS : S.Nodup) : Ords S (ordN S S.length) := fun o => by
  rw [mem_ordN]
  constructor
  · rintro ⟨a, b, l⟩
    refine ⟨a, fun x => ⟨b x, fun hx => ?_⟩⟩
    by_cases h : x ∈ o
    · exact h
    · have := nodup_len_le (u := x :: o) (v := S) (List.nodup_cons.mpr ⟨h, a⟩) fun y hy => by
        rcases List.mem_cons.mp hy with rfl | hy
        · exact hx
        · exact b y hy
      rw [List.length_cons] at this
      omega
  · rintro ⟨a, b⟩
    exact ⟨a, fun x hx => (b x).mp hx, Nat.le_antisymm (nodup_len_le a fun x hx => (b x).mp hx) (nodup_len_le hS fun x hx => (b x).mpr hx)⟩
theorem txs_app (a b : List (List Nat)) : txs (a ++ b) = txs a ++ txs b := by unfold txs; rw [List.map_append]
section
variable {P : Program} {w : World} {K : PySem.W.Frag} {mg : Str → Option Value} {base : Heap} (T : Txt K mg)
theorem ok_orders : FnOk P w K mg base CX0 1 T.l_orders.f T.l_orders.d ["_law_letters"] spOrders := by
  refine T.l_orders.F.ok sc_l_orders (fun vs H Q E h => ?_) (fun cdv A outer s H vs Q E hr h => ?_)
  · obtain ⟨S, rfl, _⟩ := h
    rfl
  · obtain ⟨S, rfl, hS, h4, k⟩ := h
    refine ⟨_, pss_cons (ps_set (i := 1) sc_l_orders.nd rfl (.inl rfl) (pe_lst (pa_cons pe_str pa_nil)))
      (pss_cons (ps_for PassesOwn.never rfl (pi_range1 rfl T.z_range (pa_cons (pe_callB call_len_str (by rfl) T.z_len PySem.boot_len (pa_cons (pv 0) pa_nil)) pa_nil)) (pg_name (i := 2) sc_l_orders.nd rfl (.inl rfl))
        (pss_cons (ps_set (i := 3) sc_l_orders.nd rfl (.inl rfl) (pe_lst pa_nil))
        (pss_cons (ps_for PassesOwn.never rfl (pi_list (pv 1)) (pg_name (i := 4) sc_l_orders.nd rfl (.inr rfl))
          (pss_one (ps_set (i := 3) sc_l_orders.nd rfl (.inl rfl) (pe_op op_cat (pv 3)
            (pe_lc (own := [("_law_sign", 5)]) (g := gName 5) rfl sc_l_orders.nd (pi_list (pe_callB (call_sortT rfl) (by rfl) T.z_sorted (by decide +kernel) (pa_cons (pv 0) pa_nil))) (blkOk_by (N := ["_law_letters", "_law_rows", "_law_turn", "_law_longer", "_law_told", "_law_sign"]) (sc := defScope s_l_orders) (by decide +kernel)) (fun _ _ _ _ _ => pg_name (i := 5) sc_l_orders.nd rfl (.inl rfl))
              (fun _ _ _ _ _ => pts_one (pt_cmpR op_notIn_sign (pv 5) (pv 4) rfl)) (fun _ _ _ _ _ => pe_op op_add_str (pv 4) (pv 5)))))))
        (pss_one (ps_set (i := 1) sc_l_orders.nd rfl (.inl rfl) (pv 3))))))
      (pss_one (ps_ret (pv 1)))), ?_⟩
    refine q_asgL (el_lst (ea_cons ev_c ea_nil) (show (1 : Nat) ≤ 100000 by decide)) fun p H1 hp e1 h1 => ?_
    rw [tx_nil] at h1
    refine q_forX (evx_range1 (n := S.length) (ea_cons (ev_lenS (ev_var rfl) (by omega)) ea_nil) (by omega)) (fun H0 xs i σ' H' => Ex H1 H0 ∧ Ex H0 H' ∧ ∃ p o2 o3 o4, σ' = [some (.str (tx S)), some (.ref p), o2, o3, o4, none] ∧ H' p = some (.lst (txs (ordN S i)))) (fun H0 xs i σ' H' pv => pv.2.1)
      (fun xs H2 e2 _ => ⟨e2, Ex.refl _, p, none, none, none, rfl, e2 _ _ h1⟩) (fun H0 xs i x σ' H' e0 hI hx pv => ?_) (fun H0 xs σ' H' e0 hI pv => ?_)
    · obtain ⟨p0, p1, l, o2, o3, o4, hs, hl⟩ := pv
      subst hs
      subst hI
      have hi : i < S.length := by have := (List.getElem?_eq_some_iff.mp hx).1; simpa using this
      rw [List.getElem?_map, List.getElem?_range hi] at hx
      have hx := Option.some.inj hx
      subst hx
      have i3 : i ≤ 3 := by omega
      have l64 : (ordN S i).length ≤ 64 := by
        have := ordN_len h4 i
        have : (4 : Nat) ^ i ≤ 4 ^ 3 := Nat.pow_le_pow_right (by decide) i3
        omega
      refine q_asgL (el_lst ea_nil (by decide)) fun q H2 hq e2 h2 => ?_
      have hl2 := e2 _ _ hl
      refine q_forX (evx_list (ev_var rfl) (sq_of hl2)) (fun H3 ys j σ2 H4 => Ex H2 H3 ∧ Ex H3 H4 ∧ ∃ q o4, σ2 = [some (.str (tx S)), some (.ref l), some (.int ((i : Nat) : Int)), some (.ref q), o4, none] ∧ H4 q = some (.lst (txs (((ordN S i).take j).flatMap (longer S))))) (fun H3 ys j σ2 H4 pv => pv.2.1)
        (fun ys H3 e3 _ => ⟨e3, Ex.refl _, q, o4, rfl, e3 _ _ h2⟩) (fun H3 ys j x σ2 H4 e3 hI hx pv => ?_) (fun H3 ys σ2 H4 e3 hI pv => ?_)
      · obtain ⟨q0, q1, q, o, hs, hq⟩ := pv
        subst hs
        subst hI
        have hj : j < (ordN S i).length := by have := (List.getElem?_eq_some_iff.mp hx).1; unfold txs at this; simpa using this
        have hjt : (ordN S i)[j]? = some (ordN S i)[j] := List.getElem?_eq_getElem hj
        unfold txs at hx
        rw [List.getElem?_map, hjt] at hx
        have hx := Option.some.inj hx
        subst hx
        have ht := (mem_ordN.mp (List.getElem_mem hj)).2.2
        generalize (ordN S i)[j] = t at hjt ht
        have few : (((ordN S i).take j).flatMap (longer S)).length ≤ 256 := by
          have := flat_len h4 ((ordN S i).take j)
          rw [List.length_take] at this
          omega
        refine s_asgP (evp_cat (n := 4) (Z := fun zs _ => zs = txs (longer S t)) (ev_var rfl) hq (fun H5 e5 Q2 q2 => ?_) (by unfold txs; rw [List.length_map]; omega) (fun zs H5 H6 e a => a)) fun v H5 e5 ⟨q', zs, hv, hq', _, hz⟩ => ?_
        · refine evx_sortT (l := S) (ev_var rfl) (by omega) H5 e5 _ fun J H6 xs G e6 ⟨zs, hxs, z1, z2⟩ wk hG => ?_
          have ez : zs = S := perm_asc z1 z2 (asc_le hS)
          subst ez
          subst hxs
          have wx : EvX (fun σ H R => R J H) [some (.str (tx zs)), some (.ref l), some (.int ((i : Nat) : Int)), some (.ref q), some (.str (tx t)), none] H6 (fun xs _ => xs = zs.map fun c => V.str (tx [c])) := fun H7 e7 Rr hR => hR J H7 _ G (Ex.refl _) rfl wk fun H8 e8 => hG H8 (e7.trans e8)
          have := el_lcF (j := 5) (vs := [5]) zs (fun c => V.str (tx [c])) (fun c => !t.contains c) (fun c => V.str (tx (t ++ [c]))) wx (by omega) (fun x => rfl) (tt := tTest (tOp (fun x y H Q => ∃ (c : Nat) (z : Str), x = .str ⟨#[c]⟩ ∧ y = .str z ∧ Q (.bl (!decide (c ∈ z.cps.toList))) H) (tVar 5) (tVar 4)))
            (te := tOp (fun x y H Q => ∃ i j, x = .str i ∧ y = .str j ∧ i.length + j.length ≤ sizeLine ∧ Q (.str (i ++ j)) H) (tVar 4) (tVar 5)) (fun z H7 hz e7 => et_test (ev_notInS (ev_var rfl) (ev_var rfl))) (fun z H7 hz hp e7 => ev_addS (ev_var rfl) (ev_var rfl) (by simp; omega))
          refine this H6 (Ex.refl _) _ fun p5 H7 hp5 e7 h7 => q2 _ _ (e6.trans e7) ⟨p5, _, rfl, h7, ?_, ?_⟩
          · rw [List.length_map]
            have := List.length_filter_le (fun c => !t.contains c) zs
            omega
          · unfold txs longer
            rw [List.map_map]
            rfl
        · subst hv
          refine ⟨q0, q1.trans e5, q', _, rfl, ?_⟩
          rw [hq', hz, ← txs_app, List.take_add_one, hjt, List.flatMap_append]
          simp
      · obtain ⟨q0, q1, q, o, hs, hq⟩ := pv
        subst hs
        subst hI
        unfold txs at hq
        rw [List.length_map, List.take_length] at hq
        exact s_asg (ev_var rfl) fun H5 e5 => ⟨p0, ((((p1.trans e2).trans q0).trans q1).trans e5), q, _, _, _, rfl, e5 _ _ hq⟩
    · obtain ⟨p0, p1, l, o2, o3, o4, hs, hl⟩ := pv
      subst hs
      subst hI
      rw [List.length_map, List.length_range] at hl
      refine s_ret (ev_var rfl) fun H2 e2 => k _ _ (((e1.trans p0).trans p1).trans e2) ⟨l, ordN S S.length, rfl, e2 _ _ hl, ordN_24 (asc_nodup hS) h4, ords_of (asc_nodup hS)⟩
end
end Ow

namespace Ow
open PySem PySem.Spec PyProof.Rows L2 Evl
theorem lt_ones (a b : Nat) : decide ((tx [a]).cps.toList < (tx [b]).cps.toList) = decide (a < b) := by
  have e : ((tx [a]).cps.toList < (tx [b]).cps.toList) ↔ a < b := by
    show ([a] < [b]) ↔ _
    rw [List.cons_lt_cons_iff]
    exact ⟨fun h => h.elim id fun h => absurd h.2 (List.not_lt_nil _), .inl⟩
  exact decide_eq_decide.mpr e
section
variable {prog : Program} {w : World} {A : Around} {E : Value → Shared → Prop} {s : Shared} {P : Nat → Value → Prop}
theorem cmp_lt1 (val : Nat → Nat) (hval : ∀ i v, P i v → ∃ t, v = .str (tx [val i]) t) : CmpOf prog w A .Lt P (fun i j => decide (val i < val j)) := fun i j vi vj s Q E hi hj h => by
  obtain ⟨t, rfl⟩ := hval i vi hi
  obtain ⟨u, rfl⟩ := hval j vj hj
  have h : Q (.bool (decide (val i < val j))) s := h
  rw [← lt_ones] at h
  exact PyProof.Rows.lt_str h
theorem cmp_gt1 (val : Nat → Nat) (hval : ∀ i v, P i v → ∃ t, v = .str (tx [val i]) t) : CmpOf prog w A .Gt P (fun i j => decide (val j < val i)) := fun i j vi vj s Q E hi hj h => by
  obtain ⟨t, rfl⟩ := hval i vi hi
  obtain ⟨u, rfl⟩ := hval j vj hj
  have h : Q (.bool (decide (val j < val i))) s := h
  rw [← lt_ones] at h
  exact PySem.P.gt_str h
theorem best_le (val : Nat → Nat) : ∀ k, argBest (fun i j => decide (val i < val j)) k ≤ k ∧ ∀ j, j ≤ k → val (argBest (fun i j => decide (val i < val j)) k) ≤ val j
  | 0 => ⟨Nat.le_refl _, fun j hj => by
    have e : j = 0 := Nat.le_zero.mp hj
    rw [e]
    exact Nat.le_refl _⟩
  | k + 1 => by
    obtain ⟨h1, h2⟩ := best_le val k
    by_cases h : val (k + 1) < val (argBest (fun i j => decide (val i < val j)) k)
    · have e : argBest (fun i j => decide (val i < val j)) (k + 1) = k + 1 := by simp [argBest, h]
      rw [e]
      refine ⟨Nat.le_refl _, fun j hj => ?_⟩
      by_cases hk : j = k + 1
      · subst hk; exact Nat.le_refl _
      · have := h2 j (by omega)
        omega
    · have e : argBest (fun i j => decide (val i < val j)) (k + 1) = argBest (fun i j => decide (val i < val j)) k := by simp [argBest, h]
      rw [e]
      refine ⟨by omega, fun j hj => ?_⟩
      by_cases hk : j = k + 1
      · subst hk; omega
      · exact h2 j (by omega)
/-- min(xs) of a list of one-sign texts: the very item -/
theorem min_onesL {l : Addr} {items : Array Value} {ns : List Nat} {Q : Value → Shared → Prop} (hh : A.handled = none) (hl : s.heap.IsList l items) (hsz : items.size = ns.length) (hne : 0 < ns.length)
    (hv : ∀ i v, items[i]? = some v → ∃ t, v = Value.str (tx [ns.getD i 0]) t)
    (h : ∀ j v h' tk, items[j]? = some v → (∀ i, i < ns.length → ns.getD j 0 ≤ ns.getD i 0) → j < ns.length → (∀ b o, s.heap.get? b = some o → h'.get? b = some o) → Q v { s with heap := h', toks := tk }) : wpAny (model prog w) A (call (.builtin "min") [.ref l]) Q E s := by
  refine call_min_walk ?_
  have hlt : l < s.heap.objs.size := by obtain ⟨_, e, _⟩ := hl; exact Heap.lt_size e
  refine wpAny_pyIter_list hl ?_
  refine ⟨_, [s.heap.objs.size, l], [s.heap.objs.size], _, _, _, fun i j => decide (ns.getD i 0 < ns.getD j 0), rfl, Walks.list (A := A.in1) hh _ l (Nat.ne_of_lt hlt) items, ⟨⟨_, Heap.get?_push_size _ rfl, rfl, rfl⟩, hl.push _⟩, fun b hb => ?_, by rw [hsz]; exact hne, cmp_lt1 (fun i => ns.getD i 0) (fun i v hp => hv i v hp), fun v h' tk hP hk => ?_⟩
  · show b < (s.heap.push _).objs.size
    rw [Heap.size_push]
    rcases List.mem_cons.mp hb with rfl | hb
    · exact Nat.lt_succ_self _
    · rw [List.mem_singleton] at hb
      subst hb
      exact Nat.lt_succ_of_lt hlt
  · obtain ⟨b1, b2⟩ := best_le (fun i => ns.getD i 0) (items.size - 1)
    exact h _ v h' tk hP (fun i hi => b2 i (by omega)) (by rw [hsz] at b1 ⊢; omega) (old_kept hk)
theorem min_two1 {a b : Nat} {t u : Tok} {Q : Value → Shared → Prop} (hh : A.handled = none)
    (h : ∀ h' tk v, (∀ c o, s.heap.get? c = some o → h'.get? c = some o) → RelV (.str (tx [min a b])) v → Q v { s with heap := h', toks := tk }) : wpAny (model prog w) A (call (.builtin "min") [.str (tx [a]) t, .str (tx [b]) u]) Q E s := by
  have hT : (s.heap.push { cls := .type "tuple", data := .seq #[.str (tx [a]) t, .str (tx [b]) u] }).IsTuple s.heap.objs.size #[.str (tx [a]) t, .str (tx [b]) u] := ⟨_, Heap.get?_push_size _ rfl, rfl, 0, rfl⟩
  refine call_min_two (wpAny_pyIter_tuple hT ?_)
  have hsz : (s.heap.push { cls := .type "tuple", data := .seq #[.str (tx [a]) t, .str (tx [b]) u] }).objs.size = s.heap.objs.size + 1 := Heap.size_push ..
  refine ⟨_, [_, s.heap.objs.size], [_], _, _, _, fun i j => decide ([a, b].getD i 0 < [a, b].getD j 0), rfl, Walks.tuple (A := A.in1) hh _ s.heap.objs.size (by rw [hsz]; exact Nat.ne_of_lt (Nat.lt_succ_self _)) #[.str (tx [a]) t, .str (tx [b]) u],
    ⟨⟨_, Heap.get?_push_size _ rfl, rfl, rfl⟩, hT.push _⟩, fun c hc => ?_, by simp, cmp_lt1 (fun i => [a, b].getD i 0) (fun i v hp => ?_), fun v h' tk hP hk => ?_⟩
  · show c < ((s.heap.push _).push _).objs.size
    rw [Heap.size_push, hsz]
    rcases List.mem_cons.mp hc with rfl | hc
    · rw [hsz]; exact Nat.lt_succ_self _
    · rw [List.mem_singleton] at hc
      subst hc
      exact Nat.lt_succ_of_lt (Nat.lt_succ_self _)
  · match i, hp with
    | 0, hp => have := Option.some.inj hp; exact ⟨t, this.symm⟩
    | 1, hp => have := Option.some.inj hp; exact ⟨u, this.symm⟩
    | i + 2, hp => simp at hp
  · refine h h' tk v (fun c o e => hk c o (fun hm => ?_) (Heap.get?_push_of_some _ (Heap.get?_push_of_some _ e))) ?_
    · rw [List.mem_singleton] at hm
      have := Heap.lt_size e
      rw [hm, hsz] at this
      exact Nat.lt_irrefl _ (Nat.lt_of_succ_lt this)
    · have hP : (#[Value.str (tx [a]) t, .str (tx [b]) u])[argBest (fun i j => decide ([a, b].getD i 0 < [a, b].getD j 0)) 1]? = some v := hP
      by_cases hba : b < a
      · have e : argBest (fun i j => decide ([a, b].getD i 0 < [a, b].getD j 0)) 1 = 1 := by simp [argBest, hba]
        rw [e] at hP
        have := Option.some.inj hP
        rw [show min a b = b by omega]
        exact ⟨u, this.symm⟩
      · have e : argBest (fun i j => decide ([a, b].getD i 0 < [a, b].getD j 0)) 1 = 0 := by simp [argBest, hba]
        rw [e] at hP
        have := Option.some.inj hP
        rw [show min a b = a by omega]
        exact ⟨t, this.symm⟩
theorem max_two1 {a b : Nat} {t u : Tok} {Q : Value → Shared → Prop} (hh : A.handled = none)
    (h : ∀ h' tk v, (∀ c o, s.heap.get? c = some o → h'.get? c = some o) → RelV (.str (tx [max a b])) v → Q v { s with heap := h', toks := tk }) : wpAny (model prog w) A (call (.builtin "max") [.str (tx [a]) t, .str (tx [b]) u]) Q E s := by
  have hT : (s.heap.push { cls := .type "tuple", data := .seq #[.str (tx [a]) t, .str (tx [b]) u] }).IsTuple s.heap.objs.size #[.str (tx [a]) t, .str (tx [b]) u] := ⟨_, Heap.get?_push_size _ rfl, rfl, 0, rfl⟩
  refine call_max_two (wpAny_pyIter_tuple hT ?_)
  have hsz : (s.heap.push { cls := .type "tuple", data := .seq #[.str (tx [a]) t, .str (tx [b]) u] }).objs.size = s.heap.objs.size + 1 := Heap.size_push ..
  refine ⟨_, [_, s.heap.objs.size], [_], _, _, _, fun i j => decide ([a, b].getD j 0 < [a, b].getD i 0), rfl, Walks.tuple (A := A.in1) hh _ s.heap.objs.size (by rw [hsz]; exact Nat.ne_of_lt (Nat.lt_succ_self _)) #[.str (tx [a]) t, .str (tx [b]) u],
    ⟨⟨_, Heap.get?_push_size _ rfl, rfl, rfl⟩, hT.push _⟩, fun c hc => ?_, by simp, cmp_gt1 (fun i => [a, b].getD i 0) (fun i v hp => ?_), fun v h' tk hP hk => ?_⟩
  · show c < ((s.heap.push _).push _).objs.size
    rw [Heap.size_push, hsz]
    rcases List.mem_cons.mp hc with rfl | hc
    · rw [hsz]; exact Nat.lt_succ_self _
    · rw [List.mem_singleton] at hc
      subst hc
      exact Nat.lt_succ_of_lt (Nat.lt_succ_self _)
  · match i, hp with
    | 0, hp => have := Option.some.inj hp; exact ⟨t, this.symm⟩
    | 1, hp => have := Option.some.inj hp; exact ⟨u, this.symm⟩
    | i + 2, hp => simp at hp
  · refine h h' tk v (fun c o e => hk c o (fun hm => ?_) (Heap.get?_push_of_some _ (Heap.get?_push_of_some _ e))) ?_
    · rw [List.mem_singleton] at hm
      have := Heap.lt_size e
      rw [hm, hsz] at this
      exact Nat.lt_irrefl _ (Nat.lt_of_succ_lt this)
    · have hP : (#[Value.str (tx [a]) t, .str (tx [b]) u])[argBest (fun i j => decide ([a, b].getD j 0 < [a, b].getD i 0)) 1]? = some v := hP
      by_cases hba : a < b
      · have e : argBest (fun i j => decide ([a, b].getD j 0 < [a, b].getD i 0)) 1 = 1 := by simp [argBest, hba]
        rw [e] at hP
        have := Option.some.inj hP
        rw [show max a b = b by omega]
        exact ⟨u, this.symm⟩
      · have e : argBest (fun i j => decide ([a, b].getD j 0 < [a, b].getD i 0)) 1 = 0 := by simp [argBest, hba]
        rw [e] at hP
        have := Option.some.inj hP
        rw [show max a b = a by omega]
        exact ⟨t, this.symm⟩
end
section
variable {X : Cx}
def rMin1 : List V → Hp → VK → Prop := fun xs H Q => ∃ a b : Nat, xs = [.str (tx [a]), .str (tx [b])] ∧ Q (.str (tx [min a b])) H
def rMax1 : List V → Hp → VK → Prop := fun xs H Q => ∃ a b : Nat, xs = [.str (tx [a]), .str (tx [b])] ∧ Q (.str (tx [max a b])) H
theorem call_min1 (hc : X.calm = true) : CallR X (.builtin "min") rMin1 := by
  intro pins s σ H xs us Q I r h
  obtain ⟨a, b, rfl, q⟩ := h
  obtain ⟨u, w', rfl, ⟨t, rfl⟩, ⟨t', rfl⟩⟩ := vals2 r
  exact min_two1 (I.ok.hd hc) fun h' tk v k rv => ⟨_, H, I.kept k, rv, q⟩
theorem call_max1 (hc : X.calm = true) : CallR X (.builtin "max") rMax1 := by
  intro pins s σ H xs us Q I r h
  obtain ⟨a, b, rfl, q⟩ := h
  obtain ⟨u, w', rfl, ⟨t, rfl⟩, ⟨t', rfl⟩⟩ := vals2 r
  exact max_two1 (I.ok.hd hc) fun h' tk v k rv => ⟨_, H, I.kept k, rv, q⟩
end
end Ow

namespace Ow
open PySem PySem.Spec PyProof.Rows L2 Evl
theorem first_ix : ∀ {l : List Nat} {c i : Nat}, l[i]? = some c → (∀ k, k < i → l[k]? ≠ some c) → i = (bef l c).length ∧ l.take i = bef l c
  | [], _, _, h, _ => by cases h
  | x :: r, c, 0, h, _ => by
    have e : x = c := Option.some.inj h
    subst e
    rw [bef_self]
    exact ⟨rfl, rfl⟩
  | x :: r, c, i + 1, h, g => by
    have ne : x ≠ c := fun e => g 0 (Nat.succ_pos _) (by rw [e]; rfl)
    obtain ⟨a, b⟩ := first_ix (l := r) (c := c) (i := i) h (fun k hk e => g (k + 1) (by omega) e)
    rw [bef_ne _ ne]
    exact ⟨by rw [List.length_cons, ← a], by rw [List.take_succ_cons, b]⟩
theorem at_one {l : List Nat} {c k : Nat} : PySem.StrLaws.At (tx l) (tx [c]) (tx l).length k ↔ l[k]? = some c := by
  constructor
  · intro h
    have := PySem.StrLaws.at_take h
    have e : ((tx l).cps.toList.drop k).take 1 = [c] := this
    rw [tx_list] at e
    cases hk : l[k]? with
    | none =>
      rw [List.drop_eq_nil_of_le (List.getElem?_eq_none_iff.mp hk)] at e
      cases e
    | some x =>
      have hlt := (List.getElem?_eq_some_iff.mp hk).1
      rw [List.drop_eq_getElem_cons hlt] at e
      rw [List.getElem?_eq_getElem hlt] at hk
      have := (List.cons.inj e).1
      rw [← this]
      exact hk.symm
  · intro h
    refine PySem.StrLaws.take_at (Nat.le_refl 1) ?_
    show ((tx l).cps.toList.drop k).take 1 = [c]
    rw [tx_list]
    obtain ⟨hlt, e⟩ := List.getElem?_eq_some_iff.mp h
    rw [List.drop_eq_getElem_cons hlt, e]
    rfl
theorem occ_ix {l : List Nat} {c : Nat} (h : c ∈ l) : ∃ r, Builtin.Str.occurrences (tx l) (tx [c]) 0 (tx l).length 1 = (bef l c).length :: r := by
  rcases PySem.StrLaws.occ_head (tx l) (tx [c]) 1 (Nat.le_refl 1) with ⟨_, hn⟩ | ⟨i, r, e, ha, hf⟩
  · obtain ⟨i, hi⟩ := List.getElem?_of_mem h
    exact absurd (at_one.mpr hi) (hn i)
  · obtain ⟨a, _⟩ := first_ix (at_one.mp ha) fun k hk e => hf k hk (at_one.mpr e)
    exact ⟨r, by rw [e, a]⟩
theorem take_ix {l : List Nat} {c : Nat} (h : c ∈ l) : l.take (bef l c).length = bef l c := by
  obtain ⟨r, e⟩ := occ_ix h
  have : bef l c <+: l := List.takeWhile_prefix _
  exact (List.prefix_iff_eq_take.mp this).symm
theorem bef_len {l : List Nat} {c : Nat} : (bef l c).length ≤ l.length := (List.takeWhile_prefix _).length_le
theorem repl_out (c : Nat) : ∀ l : List Nat, PySem.StrLaws.replL [c] [] l = l.filter (fun x => x != c)
  | [] => PySem.StrLaws.replL_nil
  | x :: r => by
    rw [List.filter_cons]
    by_cases h : x = c
    · subst h
      rw [PySem.StrLaws.replL_hit (by simp) rfl]
      rw [if_neg (by simp)]
      exact repl_out x r
    · rw [PySem.StrLaws.replL_miss (by simpa using h), if_pos (by simpa using h), repl_out c r]
theorem str_ext {a b : Str} (e : a.cps = b.cps) : a = b := by
  cases a
  cases b
  cases e
  rfl
theorem replace_out (l : List Nat) (c : Nat) : Txt.replace (tx l) (tx [c]) (tx []) = tx (l.filter (fun x => x != c)) := by
  have h := PySem.StrLaws.replace_list (x := tx l) (y := tx [c]) (z := tx []) (Nat.le_refl 1)
  have e : (Txt.replace (tx l) (tx [c]) (tx [])).cps.toList = (tx (l.filter fun x => x != c)).cps.toList := by
    rw [h, tx_list, tx_list]
    exact repl_out c l
  have e2 := Array.toList_inj.mp e
  exact str_ext e2
section
variable {K : PySem.W.Frag} {σ : L2.St} {H H' : Hp} {ta tb tc te tl : TE}
/-- the reading of text.index(sign) -/
def rIx1 : V → List V → Hp → VK → Prop := fun x xs H Q => ∃ a b i rest, x = .str a ∧ xs = [.str b] ∧ Builtin.Str.occurrences a b 0 a.length 1 = i :: rest ∧ Q (.int (i : Nat)) H
theorem ev_ix {l : List Nat} {c : Nat} (ha : Ev ta σ H (.str (tx l))) (hb : Ev tb σ H (.str (tx [c]))) (h : c ∈ l) : Ev (tM1 rIx1 ta tb) σ H (.int ((bef l c).length : Int)) := fun H1 e Q q =>
  ha H1 e _ fun H2 e2 => ⟨⟨_, rfl⟩, hb H2 (e.trans e2) _ fun H3 e3 => by
    obtain ⟨r, o⟩ := occ_ix h
    exact ⟨tx l, tx [c], _, r, rfl, rfl, o, q H3 (e2.trans e3)⟩⟩
end
section
variable {X : Cx}
theorem pe_index {o e : Expr} {to te : TE} {apos pos : Pos} (ho : PE X o to) (he : PE X e te) (hs : starEach [e] X.env = [(false, eval e X.env)] := by rfl) (hbase : attributeBase o "index" X.env (eval o X.env) = eval o X.env := by rfl) (hline : (apos.endLine == pos.line) = true := by rfl) :
    PE X (.Call (.Attribute o "index" apos) [e] [] pos) (tM1 rIx1 to te) := pe_m1 F.slot_str_index F.type_str_index mt_sindex ho he hs hbase hline
end
end Ow

namespace Ow
open PySem PySem.Spec PyProof.Rows L2 Evl
def pD (z : Nat × Nat) : PyData := .tuple [.int z.1, .int z.2]
theorem pD_lay (z : Nat × Nat) : (pD z).canLay0 = true := by simp [pD, PyData.canLay0, PyData.canLayAll0]
theorem pD_depth (z : Nat × Nat) : (pD z).depth = 1 := by simp [pD, PyData.depth, PyData.depthAll]
theorem pDs_lay : ∀ zs : List (Nat × Nat), PyData.canLayAll0 (zs.map pD) = true
  | [] => by simp [PyData.canLayAll0]
  | z :: zs => by simp [PyData.canLayAll0, pD_lay z, pDs_lay zs]
theorem pD_eqv (z w : Nat × Nat) : PyData.eqv (pD z) (pD w) = (z == w) := by
  obtain ⟨a, b⟩ := z
  obtain ⟨c, d⟩ := w
  have e : PyData.eqv (pD (a, b)) (pD (c, d)) = (((a : Int) == (c : Int)) && (((b : Int) == (d : Int)) && true)) := by simp only [pD, PyData.eqv, PyData.eqvAll]
  rw [e, Bool.and_true]
  have i1 : ∀ x y : Nat, ((x : Int) == (y : Int)) = (x == y) := fun x y => by
    by_cases h : x = y
    · subst h
      rw [beq_self_eq_true, beq_self_eq_true]
    · rw [beq_eq_false_iff_ne.mpr h, beq_eq_false_iff_ne.mpr (by omega)]
  rw [i1, i1]
  rfl
theorem any_pD (zs : List (Nat × Nat)) (z : Nat × Nat) : ((zs.map pD).any fun y => PyData.eqv y (pD z)) = zs.contains z := by
  induction zs with
  | nil => rfl
  | cons y r ih =>
    rw [List.map_cons, List.any_cons, ih, pD_eqv, List.contains_cons]
    congr 1
    by_cases h : y = z
    · subst h
      rfl
    · rw [beq_eq_false_iff_ne.mpr h, beq_eq_false_iff_ne.mpr (Ne.symm h)]
theorem room65 {k : Nat} {A : Around} (r : Room k A) : A.units + 65 < cLine := by
  have := r.un
  omega
section
variable {X : Cx}
/-- (i, j) in a tuple of pairs -/
def rInP (K : PySem.W.Frag) : R2 := fun x y H Q => ∃ (z : Nat × Nat) (zs : List (Nat × Nat)), Dp K H x (pD z) ∧ Dp K H y (.tuple (zs.map pD)) ∧ Q (.bl (zs.contains z)) H
theorem op_inP (hu : X.A.units + 65 < cLine) : OpR X (compareOp .In) (rInP X.K) := by
  intro pins s σ H x y v u Q I rx ry h
  obtain ⟨z, zs, hd, he, q⟩ := h
  obtain ⟨as, r1⟩ := Dp.reads I (pD z) x v hd rx
  obtain ⟨bs, r2⟩ := Dp.reads I (.tuple (zs.map pD)) y u he ry
  refine SeqAt.in_tuple_reads r2 r1 (pDs_lay zs) (pD_lay z) ?_ ⟨.bl _, H, I, rfl, by rw [any_pD]; exact q⟩
  rw [pD_depth]
  have : min (PyData.depthAll (zs.map pD)) 1 ≤ 1 := Nat.min_le_right _ _
  omega
end
theorem dp_pairs {K : PySem.W.Frag} {H : Hp} : ∀ {rs : List Addr} {ps : List (Nat × Nat)}, rs.length = ps.length → (∀ (i : Nat) (r : Addr) (p : Nat × Nat), rs[i]? = some r → ps[i]? = some p → H r = some (.tup [.int (p.1 : Int), .int (p.2 : Int)])) → DpAll K H (rs.map V.ref) (ps.map pD)
  | [], [], _, _ => .nil
  | r :: rs, p :: ps, hl, h => .cons (.tup (st_of (h 0 r p rfl rfl)) (.cons (.int _) (.cons (.int _) .nil))) (dp_pairs (by simpa using hl) fun i r p a b => h (i + 1) r p (by simpa using a) (by simpa using b))
  | [], _ :: _, hl, _ => by simp at hl
  | _ :: _, [], hl, _ => by simp at hl
theorem abc_bef {c : Nat} (h1 : 97 ≤ c) (h2 : c < 101) : c ∈ [97, 98, 99, 100, 101, 102, 103] ∧ (bef [97, 98, 99, 100, 101, 102, 103] c).length = c - 97 := by
  have : c = 97 ∨ c = 98 ∨ c = 99 ∨ c = 100 := by omega
  rcases this with rfl | rfl | rfl | rfl <;> decide
section
variable {P : Program} {w : World} {K : PySem.W.Frag} {mg : Str → Option Value} {base : Heap} (T : Txt K mg)
theorem ok_friend : FnOk P w K mg base CX0 1 T.l_friend.f T.l_friend.d ["_law_company_here", "_law_one", "_law_other"] spFriend := by
  refine T.l_friend.F.ok sc_l_friend (fun vs H Q E h => ?_) (fun cdv A outer s H vs Q E hr h => ?_)
  · obtain ⟨c, n, ps, a, b, rfl, _⟩ := h
    rfl
  · obtain ⟨c, n, ps, a, b, rfl, hc, hv, hl, k⟩ := h
    refine ⟨_, pss_cons (ps_set (i := 3) sc_l_friend.nd rfl (.inl rfl) pe_str)
      (pss_one (ps_ret (pe_cmpR (op_inP (room65 hr)) (pe_tup (pa_cons (pe_index (pv 3) (pe_callB (call_min1 rfl) (by rfl) T.z_min (by decide +kernel) (pa_cons (pv 1) (pa_cons (pv 2) pa_nil))))
        (pa_cons (pe_index (pv 3) (pe_callB (call_max1 rfl) (by rfl) T.z_max (by decide +kernel) (pa_cons (pv 1) (pa_cons (pv 2) pa_nil)))) pa_nil))) (pe_ix ix_tup (pv 0) pe_int (fun _ _ => rfl)) (by rfl)))), ?_⟩
    refine q_asg ev_c fun H1 e1 => ?_
    rw [tx_abc]
    obtain ⟨q, rs, c1, c2, c3, c4⟩ := (hc.mono e1).ex
    have la := hl a List.mem_cons_self
    have lb := hl b (List.mem_cons_of_mem _ List.mem_cons_self)
    have hi := hv.hi
    obtain ⟨m1, m2⟩ := abc_bef (c := min a b) (by omega) (by omega)
    obtain ⟨m3, m4⟩ := abc_bef (c := max a b) (by omega) (by omega)
    have tmn : ∀ H, Ev (tCB rMin1 (tCons (tVar 1) (tCons (tVar 2) tNil))) ((L2.start ["_law_company_here", "_law_one", "_law_other", "_law_signs"] [.ref c, .str (tx [a]), .str (tx [b])]).set 3 (some (.str (tx [97, 98, 99, 100, 101, 102, 103])))) H (.str (tx [min a b])) := fun H =>
      ev_cb (ea_cons (ev_var rfl) (ea_cons (ev_var rfl) ea_nil)) fun H1 _ Q q => ⟨a, b, rfl, q H1 (Ex.refl _)⟩
    have tmx : ∀ H, Ev (tCB rMax1 (tCons (tVar 1) (tCons (tVar 2) tNil))) ((L2.start ["_law_company_here", "_law_one", "_law_other", "_law_signs"] [.ref c, .str (tx [a]), .str (tx [b])]).set 3 (some (.str (tx [97, 98, 99, 100, 101, 102, 103])))) H (.str (tx [max a b])) := fun H =>
      ev_cb (ea_cons (ev_var rfl) (ea_cons (ev_var rfl) ea_nil)) fun H1 _ Q q => ⟨a, b, rfl, q H1 (Ex.refl _)⟩
    refine s_ret (v := .bl (fr ps a b)) (fun H2 e2 Q2 q2 => ?_) fun H2 e2 => k H2 (e1.trans e2)
    refine eu_tup (ea_cons (ev_ix (ev_var rfl) (tmn _) m1) (ea_cons (ev_ix (ev_var rfl) (tmx _) m3) ea_nil)) (by simp) H2 e2 _ fun p H3 hp e3 h3 => ?_
    refine ev_op (x := .ref c) (y := .int 1) (z := .ref q) (ev_var rfl) ev_c (rv_ixT (st_of c1) (atI_nat (j := 1) rfl)) H3 (e2.trans e3) _ fun H4 e4 => ?_
    have c4' : ∀ (i : Nat) (r : Addr) (p : Nat × Nat), rs[i]? = some r → ps[i]? = some p → H4 r = some (.tup [.int (p.1 : Int), .int (p.2 : Int)]) := fun i r p a b => ((e2.trans e3).trans e4) _ _ (c4 i r p a b)
    have ef : fr ps a b = ps.contains (min a b - 97, max a b - 97) := by
      unfold fr
      rw [decide_eq_true (show 97 ≤ min a b by omega), Bool.true_and]
    rw [ef] at q2
    refine ⟨(min a b - 97, max a b - 97), ps, .tup (st_of (e4 _ _ h3)) ?_, .tup (st_of (((e2.trans e3).trans e4) _ _ c2)) (dp_pairs c3 c4'), q2 H4 (e3.trans e4)⟩
    rw [m2, m4]
    exact .cons (.int _) (.cons (.int _) .nil)
end
end Ow

namespace Ow
open PySem PySem.Spec PyProof.Rows L2 Evl
section
variable {K : PySem.W.Frag} {σ : L2.St} {H H' : Hp} {ta tb tc te tl : TE}
theorem ev_all {bs : List Bool} (h : EvL te σ H (bs.map V.bl)) : Ev (tCB (rAll K) (tCons te tNil)) σ H (.bl (bs.all id)) := fun H1 e Q q =>
  h H1 e _ fun p H2 _ e2 hp => ⟨p, bs, rfl, sq_of hp, q H2 e2⟩
theorem ev_alls {α : Type} {zs : List α} {f : α → Bool} (h : EvL te σ H ((zs.filter fun _ => true).map fun z => V.bl (f z))) : Ev (tCB (rAll K) (tCons te tNil)) σ H (.bl (zs.all f)) := by
  have e : (zs.filter fun _ => true).map (fun z => V.bl (f z)) = (zs.map f).map V.bl := by
    rw [List.filter_eq_self.mpr fun _ _ => rfl, List.map_map]
    rfl
  rw [e] at h
  have := ev_all (K := K) h
  rw [List.all_map] at this
  exact this
theorem evx_range1I {ta : TA} {j : Int} (h : EvA ta σ H [.int j]) (h1 : -1 ≤ j) (h2 : j ≤ 100000) : EvX (iRng1 ta) σ H (fun ys _ => ys = (List.range j.toNat).map fun i => V.int ((i : Nat) : Int)) := fun H1 e Rr q =>
  h H1 e _ fun H2 e2 => ⟨j, rfl, by omega, by omega, by
    have w := walk_ints 0 j.toNat
    have z : (fun i : Nat => V.int ((0 : Int) + (i : Int))) = fun i : Nat => V.int (i : Int) := by funext i; rw [Int.zero_add]
    rw [z] at w
    exact q _ H2 _ _ e2 rfl w fun _ _ => trivial⟩
end
def rLtS : R2 := fun x y H Q => ∃ i j : Str, x = .str i ∧ y = .str j ∧ Q (.bl (decide (i.cps.toList < j.cps.toList))) H
theorem abc_take {n : Nat} (hn : n ≤ 4) {c : Nat} : c ∈ ([97, 98, 99, 100, 101, 102, 103] : List Nat).take n ↔ 97 ≤ c ∧ c < 97 + n := by
  have : n = 0 ∨ n = 1 ∨ n = 2 ∨ n = 3 ∨ n = 4 := by omega
  rcases this with rfl | rfl | rfl | rfl | rfl <;> simp <;> omega
section
variable {P : Program} {w : World} {K : PySem.W.Frag} {mg : Str → Option Value} {base : Heap} (T : Txt K mg)
theorem ok_is_set : FnOk P w K mg base CX0 1 T.is_set.f T.is_set.d ["company", "value"] spIsSet := by
  refine T.is_set.F.ok sc_is_set (fun vs H Q E h => ?_) (fun cdv A outer s H vs Q E hr h => ?_)
  · obtain ⟨c, n, ps, S, rfl, _⟩ := h
    rfl
  · obtain ⟨c, n, ps, S, rfl, hc, hv, hS, hl, k⟩ := h
    obtain ⟨ta, hta⟩ := T.alpha
    refine ⟨_, pss_cons (ps_if (PW.pt (pw_or (pt_not (pt_val (pe_callB call_isi (by rfl) T.z_isinstance (by decide +kernel) (pa_cons (pv 1) (pa_cons (pe_bltn (v := .ty "str") (by rfl) T.z_str (by decide +kernel) rfl) pa_nil))))) (pw_or1 (pt_cmpR op_gt (pe_callB call_len_str (by rfl) T.z_len PySem.boot_len (pa_cons (pv 1) pa_nil)) (pe_ix ix_tup (pv 0) pe_int (fun _ _ => rfl)) (nomark _))))) pss_never pss_nil)
      (pss_cons (ps_if (pt_not (pt_val (pe_callB (cr_all rfl) (by rfl) T.z_all (by decide +kernel) (pa_cons
          (pe_lc (own := [("sign", 2)]) (g := gName 2) (te := tOp (fun x y H Q => ∃ (c : Nat) (z : Str), x = .str ⟨#[c]⟩ ∧ y = .str z ∧ Q (.bl (decide (c ∈ z.cps.toList))) H) (tVar 2) (tSl rSlS (tC (.str "abcdefg")) tNoPart (tPart (tOp (rIxT K) (tVar 0) (tC (.int 0)))))) rfl sc_is_set.nd (pi_str (pv 1)) (blkOk_by (N := ["company", "value", "sign", "at"]) (sc := defScope s_is_set) (by decide +kernel)) (fun _ _ _ _ _ => pg_name (i := 2) sc_is_set.nd rfl (.inl rfl))
            (fun _ _ _ _ _ => pts_nil) (fun _ _ _ _ _ => pe_cmpR op_in_sign (pv 2) (pe_slice sl_str (pe_glob (v := .str "abcdefg") (by rfl) hta ⟨ta, rfl⟩) po_none (po_some (pe_ix (r := rIxT K) ix_tup (pv 0) pe_int (fun _ _ => rfl)))) rfl)) pa_nil)))) pss_never pss_nil)
      (pss_one (ps_ret (pe_callB (cr_all rfl) (by rfl) T.z_all (by decide +kernel) (pa_cons
          (pe_lc (own := [("at", 3)]) (g := gName 3) rfl sc_is_set.nd (pi_range1 rfl T.z_range (pa_cons (pe_op op_sub (pe_callB call_len_str (by rfl) T.z_len PySem.boot_len (pa_cons (pv 1) pa_nil)) pe_int) pa_nil)) (blkOk_by (N := ["company", "value", "sign", "at"]) (sc := defScope s_is_set) (by decide +kernel)) (fun _ _ _ _ _ => pg_name (i := 3) sc_is_set.nd rfl (.inl rfl))
            (fun _ _ _ _ _ => pts_nil) (fun _ _ _ _ _ => pe_cmpR op_lt_str (pe_ix ix_str (pv 1) (pv 3) (fun _ _ => rfl)) (pe_ix ix_str (pv 1) (pe_op op_add (pv 3) pe_int) (fun _ _ => rfl)) (nomark _))) pa_nil))))), ?_⟩
    obtain ⟨q, rs, c1, c2, c3, c4⟩ := hc.ex
    have hn := hv.hi
    have hlen : S.length ≤ n := asc_len (lo := 97) hS hl
    refine q_when (b := false) (et_or (a := false) (b := false) (et_not (a := true) (et_B (ev_isi (ev_var rfl) ev_c (fun _ _ => .base (.str _)) (by decide +kernel : kitB "str" "str" = some true)))) fun _ => et_test (ev_is (ev_op (ev_lenS (ev_var rfl) (by omega)) (ev_op (ev_var rfl) ev_c (rv_ixT (st_of c1) (atI_nat (j := 0) rfl))) rv_I0) (by rw [decide_eq_false (by omega)]))) (fun z => nomatch z) fun _ H1 e1 => ?_
    refine q_when (b := false) (et_not (a := true) (et_B (ev_is (ev_alls (zs := S) (f := fun c => (([97, 98, 99, 100, 101, 102, 103] : List Nat).take n).contains c) (el_lcF S (fun c => V.str (tx [c])) (fun _ => true) (fun c => V.bl ((([97, 98, 99, 100, 101, 102, 103] : List Nat).take n).contains c)) (evx_str (ev_var rfl)) (by omega) (fun x => rfl) (fun z H1 _ _ => et_yes) (fun z H2 hz _ e2 => ?_))) ?_))) (fun z => nomatch z) fun _ H2 e2 => ?_
    · refine ev_inS (ev_var rfl) (ev_slTake (to := tNoPart) (by rw [← tx_abc]; exact ev_c) (ev_op (ev_var rfl) ev_c (rv_ixT (st_of ((e1.trans e2) _ _ c1)) (atI_nat (j := 0) rfl))) (by simp; omega) (by decide))
    · congr 1
      refine List.all_eq_true.mpr fun z hz => ?_
      rw [List.contains_iff_mem]
      exact (abc_take hn).mpr (hl z hz)
    · refine s_ret (v := .bl true) (ev_is (ev_alls (zs := List.range ((S.length : Int) - 1).toNat) (f := fun i => decide (S.getD i 0 < S.getD (i + 1) 0)) (el_lcF (List.range ((S.length : Int) - 1).toNat) (fun i => V.int ((i : Nat) : Int)) (fun _ => true) (fun i => V.bl (decide (S.getD i 0 < S.getD (i + 1) 0))) (evx_range1I (ea_cons (ev_op (ev_lenS (ev_var rfl) (by omega)) ev_c rv_I0) ea_nil) (by omega) (by omega)) (by rw [List.length_range]; omega) (fun x => rfl) (fun z H1 _ _ => et_yes) (fun i H3 hi _ e3 => ?_))) ?_) fun H3 e3 => k H3 ((e1.trans e2).trans e3)
      · have hi := List.mem_range.mp hi
        refine ev_op (r := rLtS) (ev_ixTx (ev_var rfl) (ev_var rfl) (by omega) (by omega)) (ev_ixTx (i := i + 1) (ev_var rfl) (ev_is (ev_op (ev_var rfl) ev_c rv_I0) rfl) (by omega) (by omega)) fun H4 _ Q q => ⟨_, _, rfl, rfl, by rw [lt_ones]; exact q H4 (Ex.refl _)⟩
      · congr 1
        refine List.all_eq_true.mpr fun i hi => ?_
        have hi := List.mem_range.mp hi
        have h1 : i < S.length := by omega
        have h2 : i + 1 < S.length := by omega
        rw [List.getD_eq_getElem?_getD, List.getD_eq_getElem?_getD, List.getElem?_eq_getElem h1, List.getElem?_eq_getElem h2]
        exact decide_eq_true (List.pairwise_iff_getElem.mp hS i (i + 1) h1 h2 (by omega))
end
end Ow

namespace Ow
open PySem PySem.Spec PyProof.Rows L2 Evl
section
variable {X : Cx}
/-- name = {k: v for ..} on one line, the name a local -/
theorem ps_setDc {i : Nat} {y : Str} {py : Pos} {kx vx tg iter : Expr} {ifs : List Expr} {scope : Scope} {own : List (Str × Nat)} {pos spos : Pos} {wi : TI} {g : TG} {tt : TT} {tk tv : TE} (hc : X.calm = true) (hN : X.N.Nodup) (hy : X.N[i]? = some y) (hyl : X.env.scope.names.lookup y = some .local)
    (hsw : swapsWith (.DictComp kx vx [⟨tg, iter, ifs, 0⟩] scope pos) (some (.Name y py)) spos.line X.env = pure true) (hi : PI X tg iter wi) (ok : BlkOk X.N X.env.scope scope own)
    (hg : ∀ (s : Shared) (H : Hp) (C : Addr) (cl : List (Str × Addr)) (fp : List Addr), PG (X.blk s H scope (compEnvC scope cl C X.env) fp) tg g) (ht : ∀ (s : Shared) (H : Hp) (C : Addr) (cl : List (Str × Addr)) (fp : List Addr), PTs (X.blk s H scope (compEnvC scope cl C X.env) fp) ifs tt)
    (hk : ∀ (s : Shared) (H : Hp) (C : Addr) (cl : List (Str × Addr)) (fp : List Addr), PE (X.blk s H scope (compEnvC scope cl C X.env) fp) kx tk)
    (he : ∀ (s : Shared) (H : Hp) (C : Addr) (cl : List (Str × Addr)) (fp : List Addr), PE (X.blk s H scope (compEnvC scope cl C X.env) fp) vx tv) (hs : ∀ x, foldedSetIterable iter X.env x = pure x := by intro _; rfl) :
    PS X (.Assign [.Name y py] (.DictComp kx vx [⟨tg, iter, ifs, 0⟩] scope pos) spos) (tAsg (tDc wi g tt tk tv (own.map (·.2))) (gName i)) := by
  refine ⟨fun pins s σ H D I h => ?_⟩
  rw [exec_Assign_Name_used _ _ _ _ hsw]
  refine wpAny_bind (wpAny_standAt (wpAny_bind ?_))
  show wpAny _ X.A (do let _ ← comprehension (.DictComp kx vx [⟨tg, iter, ifs, 0⟩] scope pos) scope X.env (firstIterPos [⟨tg, iter, ifs, 0⟩] pos) newDict false (eval iter X.env) (some (assign (.Name y py) X.env))) _ _ s
  have h0 : tDc wi g tt tk tv (own.map (·.2)) σ H (fun x H1 => gName i x σ H1 D.nx) := h
  refine wpAny_bind (thn (dc_core (Qf := fun _ s' => SP X pins D .next s') hc hN I hi ok hg ht hk he hs h0 fun L C s' m H' I' q hn f => ?_) fun _ s' hq => wpAny_pure (wpAny_pure hq))
  show wpAny _ _ (assign (.Name y py) X.env (.ref L)) _ _ _
  refine wpAny_assign_Name (store_ok2 (v := V.ref L) I' hN hy (.inl hyl) rfl (fun s2 I2 ⟨a, sb, ha⟩ => ?_) (.inr hyl))
  obtain ⟨f0, f1, f2, f3, f4, f5⟩ := f
  have haC : C ≠ a := ha.elim (fun z => z ▸ f1) fun z e => f4 y a z e.symm
  refine ⟨m, hn.sameBut sb haC, fun h3 sb3 => ?_⟩
  exact ⟨_, H', I2.turned (t' := s2.toks) (fun b o hb e => (sb3.2 b hb).trans e) f0 f1 f3 f4 f5, q⟩
theorem sw_trueD {kx vx : Expr} {gs : List Comprehension} {scope : Scope} {pos py : Pos} {y : Str} {l : Nat} {env : Env} (hk : env.scope.kind = .function) (hy : env.scope.names.lookup y = some .local) (hl : (py.line == pos.line) = true)
    (ha : (scope.names.any fun (n, k) => n == y && (k == .local || k == .cell)) = false) : swapsWith (.DictComp kx vx gs scope pos) (some (.Name y py)) l env = pure true := by
  have ky : env.kindOf y = some .local := hy
  have hb : env.blockKind = .function := by unfold Env.blockKind; rw [hk]; rfl
  unfold swapsWith
  simp only [hb, ky, ha, Expr.pos, hl]
  rfl
end
/-! ### friends, pair by pair -/
def frI (qs : List (Nat × Nat)) (x c : Nat) : Prop := ∃ p ∈ qs, (x = 97 + p.1 ∧ c = 97 + p.2) ∨ (x = 97 + p.2 ∧ c = 97 + p.1)
theorem frI_fr {n : Nat} {ps : List (Nat × Nat)} (hv : Vc n ps) {x c : Nat} : frI ps x c ↔ fr ps x c = true := by
  unfold fr
  rw [Bool.and_eq_true, List.contains_iff_mem, decide_eq_true_eq]
  constructor
  · rintro ⟨p, hp, ⟨rfl, rfl⟩ | ⟨rfl, rfl⟩⟩
    · have := (hv.pr p hp).1
      rw [Nat.min_eq_left (by omega), Nat.max_eq_right (by omega)]
      refine ⟨by omega, ?_⟩
      rw [Nat.add_sub_cancel_left, Nat.add_sub_cancel_left]
      exact hp
    · have := (hv.pr p hp).1
      rw [Nat.min_eq_right (by omega), Nat.max_eq_left (by omega)]
      refine ⟨by omega, ?_⟩
      rw [Nat.add_sub_cancel_left, Nat.add_sub_cancel_left]
      exact hp
  · rintro ⟨h1, h2⟩
    refine ⟨_, h2, ?_⟩
    rcases Nat.le_total x c with h | h
    · left
      rw [Nat.min_eq_left h, Nat.max_eq_right h]
      rw [Nat.min_eq_left h] at h1
      exact ⟨by show x = 97 + (x - 97); omega, by show c = 97 + (c - 97); omega⟩
    · right
      rw [Nat.min_eq_right h, Nat.max_eq_left h]
      rw [Nat.min_eq_right h] at h1
      exact ⟨by show x = 97 + (x - 97); omega, by show c = 97 + (c - 97); omega⟩
/-- the dict behind the first pairs -/
structure FD (n : Nat) (qs : List (Nat × Nat)) (kvs : List (Key × V)) : Prop where
  few : kvs.length ≤ 4 + 2 * qs.length
  val : ∀ c, 97 ≤ c → c < 97 + n → ∃ l : List Nat, valV kvs (.inr (tx [c])) = some (.str (tx l)) ∧ l.length ≤ 2 * qs.length ∧ ∀ x, x ∈ l ↔ frI qs x c
theorem tx1_inj {a b : Nat} (h : (Sum.inr (tx [a]) : Key) = Sum.inr (tx [b])) : a = b := by
  have := tx_inj (Sum.inr.inj h)
  exact (List.cons.inj this).1
theorem FD.put {n : Nat} {qs : List (Nat × Nat)} {kvs : List (Key × V)} {p : Nat × Nat} {la lb : List Nat} (h : FD n qs kvs) (h1 : p.1 < p.2) (h2 : p.2 < n)
    (ha : valV kvs (.inr (tx [97 + p.1])) = some (.str (tx la))) (hb : valV kvs (.inr (tx [97 + p.2])) = some (.str (tx lb))) :
    FD n (qs ++ [p]) (putK (putK kvs (.inr (tx [97 + p.1])) (.str (tx (la ++ [97 + p.2])))) (.inr (tx [97 + p.2])) (.str (tx (lb ++ [97 + p.1])))) := by
  refine ⟨?_, fun c c1 c2 => ?_⟩
  · have a1 := length_putK kvs (.inr (tx [97 + p.1])) (.str (tx (la ++ [97 + p.2])))
    have a2 := length_putK (putK kvs (.inr (tx [97 + p.1])) (.str (tx (la ++ [97 + p.2])))) (.inr (tx [97 + p.2])) (.str (tx (lb ++ [97 + p.1])))
    have := h.few
    rw [List.length_append, List.length_singleton]
    omega
  · obtain ⟨l, l1, l2, l3⟩ := h.val c c1 c2
    have ext : ∀ x, frI (qs ++ [p]) x c ↔ frI qs x c ∨ (x = 97 + p.1 ∧ c = 97 + p.2) ∨ (x = 97 + p.2 ∧ c = 97 + p.1) := fun x => by
      constructor
      · rintro ⟨q, hq, e⟩
        rcases List.mem_append.mp hq with hq | hq
        · exact .inl ⟨q, hq, e⟩
        · rw [List.mem_singleton] at hq
          subst hq
          exact .inr e
      · rintro (⟨q, hq, e⟩ | e)
        · exact ⟨q, List.mem_append_left _ hq, e⟩
        · exact ⟨p, List.mem_append_right _ (List.mem_singleton.mpr rfl), e⟩
    rw [valV_put, valV_put]
    by_cases e2 : c = 97 + p.2
    · subst e2
      rw [if_pos rfl]
      rw [l1] at hb
      have hb := tx_inj (V.str.inj (Option.some.inj hb))
      subst hb
      refine ⟨_, rfl, by rw [List.length_append, List.length_append]; simp; omega, fun x => ?_⟩
      rw [ext, List.mem_append, List.mem_singleton, l3]
      constructor
      · rintro (z | z)
        · exact .inl z
        · exact .inr (.inl ⟨z, rfl⟩)
      · rintro (z | ⟨z, _⟩ | ⟨_, z⟩)
        · exact .inl z
        · exact .inr z
        · omega
    · rw [if_neg fun z => e2 (tx1_inj z)]
      by_cases e1 : c = 97 + p.1
      · subst e1
        rw [if_pos rfl]
        rw [l1] at ha
        have ha := tx_inj (V.str.inj (Option.some.inj ha))
        subst ha
        refine ⟨_, rfl, by rw [List.length_append, List.length_append]; simp; omega, fun x => ?_⟩
        rw [ext, List.mem_append, List.mem_singleton, l3]
        constructor
        · rintro (z | z)
          · exact .inl z
          · exact .inr (.inr ⟨z, rfl⟩)
        · rintro (z | ⟨_, z⟩ | ⟨z, _⟩)
          · exact .inl z
          · omega
          · exact .inr z
      · rw [if_neg fun z => e1 (tx1_inj z)]
        refine ⟨l, l1, by rw [List.length_append]; omega, fun x => ?_⟩
        rw [ext, l3]
        exact ⟨.inl, fun z => z.elim id fun z => z.elim (fun z => absurd z.2 e2) fun z => absurd z.2 e1⟩
end Ow

namespace Ow
open PySem PySem.Spec PyProof.Rows L2 Evl
/-- a dict comprehension over what is walked -/
theorem dc_it {J : It} {n : Nat} {G : Hp → Prop} {Y : Nat → Hp → V → Hp → Prop} (w : Walk J n G Y) {g : TG} {tt : TT} {tk tv : TE} {vs : List Nat} {σ : L2.St} {H1 : Hp} {D : Addr} {Qd : Hp → Prop} (Pv : Nat → Hp → Prop) (h0 : Pv 0 (upd H1 D (.dK [])))
    (hG : ∀ i H, i ≤ n → Pv i H → G H)
    (hs : ∀ i x H H', i < n → Pv i H → Y i H x H' → g x (wipe σ vs) H' fun σ2 H2 => wipe σ2 vs = wipe σ vs ∧ tt σ2 H2 fun b H3 =>
      if b = true then tk σ2 H3 fun y H4 => tv σ2 H4 fun z H5 => ∃ kvs k, y = kV k ∧ H5 D = some (.dK kvs) ∧ kvs.length < sizeLine ∧ Pv (i + 1) (upd H5 D (.dK (putK kvs k z))) else Pv (i + 1) H3) (hd : ∀ H, Pv n H → Qd H) :
    ∃ W : Nat → Nat → Hp → Prop, (∃ m, W 0 m (upd H1 D (.dK []))) ∧ ∀ i m H, W i m H →
      (J.stop i H ∧ Qd H) ∨ (J.go i H ∧ ∃ Nx : Hp → Prop, (∀ H', Nx H' → ∃ m', m' < m ∧ W (i + 1) m' H') ∧ ∀ x H', J.yld i H x H' → g x (wipe σ vs) H' fun σ2 H2 => wipe σ2 vs = wipe σ vs ∧ tt σ2 H2 fun b H3 =>
        if b = true then tk σ2 H3 fun y H4 => tv σ2 H4 fun z H5 => ∃ kvs k, y = kV k ∧ H5 D = some (.dK kvs) ∧ kvs.length < sizeLine ∧ Nx (upd H5 D (.dK (putK kvs k z))) else Nx H3) := by
  refine ⟨fun i m H => m = n - i ∧ i ≤ n ∧ Pv i H, ⟨n, by simp, Nat.zero_le _, h0⟩, fun i m H ⟨em, hi, p⟩ => ?_⟩
  have q := hG i H hi p
  rcases Nat.lt_or_ge i n with hlt | hge
  · exact .inr ⟨w.goes i H hlt q, Pv (i + 1), fun H' p' => ⟨n - (i + 1), by omega, rfl, hlt, p'⟩, fun x H' y => hs i x H H' hlt p (w.yields i H x H' hlt q y)⟩
  · have e : i = n := Nat.le_antisymm hi hge
    subst e
    exact .inl ⟨w.stops H q, hd H p⟩
theorem q_setDc {I : List V → Hp → Prop} {wi : TI} {tt : TT} {tk tv : TE} {vs : List Nat} {σ : L2.St} {H : Hp} {D : Ends} {tz : TS} {j i0 : Nat} (hI : EvX wi σ H I) (Pv : Hp → List V → Addr → Nat → Hp → Prop) (hx : ∀ H2 xs Dl i H', Pv H2 xs Dl i H' → Ex H2 H')
    (h0 : ∀ xs H2 Dl, Ex H H2 → I xs H2 → H2 Dl = none → Pv H2 xs Dl 0 (upd H2 Dl (.dK [])))
    (hs : ∀ xs H2 Dl i x H', Ex H H2 → I xs H2 → H2 Dl = none → xs[i]? = some x → Pv H2 xs Dl i H' → gName j x (wipe σ vs) H' fun σ2 H2' => wipe σ2 vs = wipe σ vs ∧ tt σ2 H2' fun b H3 =>
      if b = true then tk σ2 H3 fun y H4 => tv σ2 H4 fun z H5 => ∃ kvs k, y = kV k ∧ H5 Dl = some (.dK kvs) ∧ kvs.length < sizeLine ∧ Pv H2 xs Dl (i + 1) (upd H5 Dl (.dK (putK kvs k z))) else Pv H2 xs Dl (i + 1) H3)
    (hd : ∀ xs H2 Dl H', Ex H H2 → I xs H2 → H2 Dl = none → Pv H2 xs Dl xs.length H' → tz D (σ.set i0 (some (.ref Dl))) H') : tSeq (tAsg (tDc wi (gName j) tt tk tv vs) (gName i0)) tz D σ H :=
  hI H (Ex.refl H) _ fun J H2 xs G e2 hxs w hG Dl hD => dc_it (Qd := fun H' => tz D (σ.set i0 (some (.ref Dl))) H') w (Pv H2 xs Dl) (h0 xs H2 Dl e2 hxs hD) (fun i H' _ pv => hG H' (hx _ _ _ _ _ pv)) (fun i x H' H'' hi pv y => by
    obtain ⟨rfl, hx'⟩ := y
    exact hs xs H2 Dl i x H'' e2 hxs hD hx' pv) fun H' pv => hd xs H2 Dl H' e2 hxs hD pv
section
variable {K : PySem.W.Frag} {σ : L2.St} {H H' : Hp} {ta tb td ty tv : TE} {D : Ends} {tz : TS}
theorem ev_abc {j u : Nat} (h : σ[j]? = some (some (.int (u : Int)))) (hu : u < 7) : Ev (tOp rIxS (tC (.str (Str.ofString "abcdefg"))) (tVar j)) σ H (.str (tx [97 + u])) := by
  refine ev_op ev_c (ev_var h) (rv_ixS (by decide) ?_)
  rw [tx_abc, tx_list]
  refine atI_nat ?_
  have : ∀ u : Nat, u < 7 → ([97, 98, 99, 100, 101, 102, 103] : List Nat)[u]? = some (97 + u) := by decide
  exact this u hu
theorem ev_dget {a : Addr} {kvs : List (Key × V)} {c : Str} {v : V} (h1 : Ev td σ H (.ref a)) (h2 : Ev ty σ H (.str c)) (hd : H a = some (.dK kvs)) (hv : valV kvs (.inr c) = some v) : Ev (tDGet td ty) σ H v := fun H1 e Q q =>
  h1 H1 e _ fun H2 e2 => h2 H2 (e.trans e2) _ fun H3 e3 => ⟨a, v, rfl, by
    have := DGet.k (k := .inr c) (((e.trans e2).trans e3) _ _ hd)
    rw [hv] at this
    exact this, q H3 (e2.trans e3)⟩
theorem s_dput {a : Addr} {kvs : List (Key × V)} {c : Str} {v : V} (h0 : Ev tv σ H v) (h1 : Ev td σ H (.ref a)) (h2 : Ev ty σ H (.str c)) (hd : H a = some (.dK kvs)) (hz : kvs.length < 100000) (k : ∀ H1, Ex H H1 → D.nx σ (upd H1 a (.dK (putK kvs (.inr c) v)))) : sDPut td ty tv D σ H :=
  h0 H (Ex.refl H) _ fun H1 e1 => h1 H1 e1 _ fun H2 e2 => h2 H2 (e1.trans e2) _ fun H3 e3 => ⟨a, _, rfl, DPut.k (k := .inr c) (((e1.trans e2).trans e3) _ _ hd) (sz_lt hz), k H3 ((e1.trans e2).trans e3)⟩
theorem q_dput {a : Addr} {kvs : List (Key × V)} {c : Str} {v : V} (h0 : Ev tv σ H v) (h1 : Ev td σ H (.ref a)) (h2 : Ev ty σ H (.str c)) (hd : H a = some (.dK kvs)) (hz : kvs.length < 100000) (k : ∀ H1, Ex H H1 → tz D σ (upd H1 a (.dK (putK kvs (.inr c) v)))) : tSeq (sDPut td ty tv) tz D σ H :=
  s_dput (D := { D with nx := tz D }) h0 h1 h2 hd hz k
end
theorem room1 {k : Nat} {A : Around} (r : Room k A) : A.units + 1 < cLine := by
  have := r.un
  omega
section
variable {P : Program} {w : World} {K : PySem.W.Frag} {mg : Str → Option Value} {base : Heap} (T : Txt K mg)
theorem ok_friends_of_all : FnOk P w K mg base CX0 1 T.friends_of_all.f T.friends_of_all.d ["company"] spFriends := by
  refine T.friends_of_all.F.ok sc_friends_of_all (fun vs H Q E h => ?_) (fun cdv A outer s H vs Q E hr h => ?_)
  · obtain ⟨c, n, ps, rfl, _⟩ := h
    rfl
  · obtain ⟨c, n, ps, rfl, hc, hv, k⟩ := h
    obtain ⟨ta, hta⟩ := T.alpha
    have hu := room1 hr
    refine ⟨_, pss_cons (ps_setDc (i := 1) (own := [("sign", 4)]) (g := gName 4) rfl sc_friends_of_all.nd rfl rfl (sw_trueD rfl rfl rfl (by decide +kernel)) (pi_str (pe_slice sl_str (pe_glob (v := .str "abcdefg") (by rfl) hta ⟨ta, rfl⟩) po_none (po_some (pe_ix ix_tup (pv 0) pe_int (fun _ _ => rfl)))))
          (blkOk_by (N := ["company", "found", "one", "other", "sign"]) (sc := defScope s_friends_of_all) (by decide +kernel)) (fun _ _ _ _ _ => pg_name (i := 4) sc_friends_of_all.nd rfl (.inl rfl)) (fun _ _ _ _ _ => pts_nil) (fun _ _ _ _ _ => pv 4) (fun _ _ _ _ _ => pe_str))
      (pss_cons (ps_for PassesOwn.never rfl (pi_tup (pe_ix ix_tup (pv 0) pe_int (fun _ _ => rfl))) (pg_tup rfl (pgs_cons (pg_name (i := 2) sc_friends_of_all.nd rfl (.inl rfl)) (pgs_cons (pg_name (i := 3) sc_friends_of_all.nd rfl (.inl rfl)) pgs_nil)))
        (pss_cons (ps_dput hu (pv 1) (pe_ix ix_str (pe_glob (v := .str "abcdefg") (by rfl) hta ⟨ta, rfl⟩) (pv 2) (fun _ _ => rfl)) (pe_op op_add_str (pe_dget hu (pv 1) (pe_ix ix_str (pe_glob (v := .str "abcdefg") (by rfl) hta ⟨ta, rfl⟩) (pv 2) (fun _ _ => rfl)) (fun _ _ => rfl)) (pe_ix ix_str (pe_glob (v := .str "abcdefg") (by rfl) hta ⟨ta, rfl⟩) (pv 3) (fun _ _ => rfl))) rfl)
        (pss_one (ps_dput hu (pv 1) (pe_ix ix_str (pe_glob (v := .str "abcdefg") (by rfl) hta ⟨ta, rfl⟩) (pv 3) (fun _ _ => rfl)) (pe_op op_add_str (pe_dget hu (pv 1) (pe_ix ix_str (pe_glob (v := .str "abcdefg") (by rfl) hta ⟨ta, rfl⟩) (pv 3) (fun _ _ => rfl)) (fun _ _ => rfl)) (pe_ix ix_str (pe_glob (v := .str "abcdefg") (by rfl) hta ⟨ta, rfl⟩) (pv 2) (fun _ _ => rfl))) rfl))))
      (pss_one (ps_ret (pv 1)))), ?_⟩
    have hn := hv.hi
    have hlo := hv.lo
    obtain ⟨q, rs, c1, c2, c3, c4⟩ := hc.ex
    have seven : ∀ p ∈ ps, p.1 < 7 ∧ p.2 < 7 := fun p hp => by have := hv.pr p hp; omega
    refine q_setDc (j := 4) (vs := [4]) (evx_str (ev_slTake (to := tNoPart) (l := [97, 98, 99, 100, 101, 102, 103]) (i := n) (by rw [← tx_abc]; exact ev_c) (ev_op (ev_var rfl) ev_c (rv_ixT (st_of c1) (atI_nat (j := 0) rfl))) (by simp; omega) (by decide)))
      (fun H2 xs Dl i H' => Ex H2 H' ∧ ∃ kvs, H' Dl = some (.dK kvs) ∧ kvs.length ≤ i ∧ ∀ c, c ∈ (([97, 98, 99, 100, 101, 102, 103] : List Nat).take n).take i → valV kvs (.inr (tx [c])) = some (.str (tx []))) (fun H2 xs Dl i H' pv => pv.1) (fun xs H2 Dl e2 hxs hD => ⟨Ex.new hD, [], upd_same, Nat.le_refl _, fun c h => by simp at h⟩) (fun xs H2 Dl i x H' e2 hxs hD hx pv => ?_) fun xs H2 Dl H' e2 hxs hD pv => ?_
    · subst hxs
      obtain ⟨p1, kvs, p2, p3, p4⟩ := pv
      have hi : i < (([97, 98, 99, 100, 101, 102, 103] : List Nat).take n).length := by have := (List.getElem?_eq_some_iff.mp hx).1; rwa [List.length_map] at this
      rw [List.getElem?_map, List.getElem?_eq_getElem hi] at hx
      have hx := Option.some.inj hx
      subst hx
      have hil : (([97, 98, 99, 100, 101, 102, 103] : List Nat).take n).length ≤ 7 := by rw [List.length_take]; exact Nat.min_le_right _ _
      refine ⟨rfl, yes_it (iteT ⟨_, rfl, kvs, .inr (tx [(([97, 98, 99, 100, 101, 102, 103] : List Nat).take n)[i]]), rfl, p2, sz_lt (by omega), Ex.mut p1 hD, _, upd_same, Nat.le_trans (length_putK _ _ _) (by omega), fun c hcm => ?_⟩)⟩
      rw [valV_put]
      split
      · rw [tx_nil]
      · rename_i hne
        rw [List.take_add_one, List.getElem?_eq_getElem hi] at hcm
        rcases List.mem_append.mp hcm with hcm | hcm
        · exact p4 c hcm
        · have := List.mem_singleton.mp hcm
          exact absurd (by rw [this]) hne
    · obtain ⟨p1, kvs, p2, p3, p4⟩ := pv
      subst hxs
      have hDH : H Dl = none := fresh_back e2 hD
      rw [List.length_map] at p3 p4
      rw [List.take_length] at p4
      have eH : Ex H H' := e2.trans p1
      have f0 : FD n [] kvs := ⟨by
        have : (([97, 98, 99, 100, 101, 102, 103] : List Nat).take n).length ≤ n := by rw [List.length_take]; exact Nat.min_le_left _ _
        show kvs.length ≤ 4 + 2 * 0
        omega, fun c h1 h2 => ⟨[], p4 c ((abc_take hn).mpr ⟨h1, h2⟩), Nat.zero_le _, fun x => ⟨fun h => (by cases h), fun ⟨_, h, _⟩ => (by cases h)⟩⟩⟩
      refine s_forT (xs := rs.map V.ref) (ev_op (ev_var rfl) ev_c (rv_ixT (st_of (eH _ _ c1)) (atI_nat (j := 1) rfl))) (st_of (eH _ _ c2)) (fun i σ' H4 => Ex H H4 ∧ (∃ o2 o3, σ' = [some (.ref c), some (.ref Dl), o2, o3, none]) ∧ ∃ kvs, H4 Dl = some (.dK kvs) ∧ FD n (ps.take i) kvs)
        (fun H1 e => ⟨eH.trans e, ⟨none, none, rfl⟩, kvs, e _ _ p2, f0⟩) (fun i σ' H4 _ pv => st_of (pv.1 _ _ c2)) (fun i x σ' H4 hx pv => ?_) fun σ' H4 pv => ?_
      · obtain ⟨eH4, ⟨o2, o3, hs⟩, kvs, hk, hf⟩ := pv
        subst hs
        have hi : i < rs.length := by have := (List.getElem?_eq_some_iff.mp hx).1; simpa using this
        have hip : i < ps.length := by rw [← c3]; exact hi
        have hpi : ps[i]? = some ps[i] := List.getElem?_eq_getElem hip
        rw [List.getElem?_map, List.getElem?_eq_getElem hi] at hx
        have hx := Option.some.inj hx
        subst hx
        have ht := eH4 _ _ (c4 i _ _ (List.getElem?_eq_getElem hi) hpi)
        have tk : ps.take (i + 1) = ps.take i ++ [ps[i]] := by rw [List.take_add_one, hpi]; rfl
        have hpm : ps[i] ∈ ps := List.getElem_mem hip
        generalize ps[i] = p at ht tk hpm
        obtain ⟨b1, b2⟩ := hv.pr p hpm
        obtain ⟨s1, s2⟩ := seven p hpm
        refine ⟨_, _, rfl, st_of ht, rfl, _, _, rfl, _, _, rfl, rfl, ?_⟩
        obtain ⟨la, a1, a2, a3⟩ := hf.val (97 + p.1) (by omega) (by omega)
        obtain ⟨lb, d1, d2, d3⟩ := hf.val (97 + p.2) (by omega) (by omega)
        have few := hf.few
        have tl : (ps.take i).length ≤ 21 := by rw [List.length_take]; have := hv.few; omega
        refine q_dput (kvs := kvs) (c := tx [97 + p.1]) (v := .str (tx (la ++ [97 + p.2]))) (ev_addS (ev_dget (ev_var rfl) (ev_abc (u := p.1) rfl s1) hk a1) (ev_abc (u := p.2) rfl s2) (by simp; omega)) (ev_var rfl) (ev_abc (u := p.1) rfl s1) hk (by omega) fun H5 e5 => ?_
        have e45 : Ex H (upd H5 Dl (.dK (putK kvs (.inr (tx [97 + p.1])) (.str (tx (la ++ [97 + p.2])))))) := Ex.mut (eH4.trans e5) hDH
        have l1 := length_putK kvs (.inr (tx [97 + p.1])) (.str (tx (la ++ [97 + p.2])))
        have d1' : valV (putK kvs (.inr (tx [97 + p.1])) (.str (tx (la ++ [97 + p.2])))) (.inr (tx [97 + p.2])) = some (.str (tx lb)) := by
          rw [valV_put, if_neg fun z => by have := tx1_inj z; omega]
          exact d1
        refine s_dput (kvs := putK kvs (.inr (tx [97 + p.1])) (.str (tx (la ++ [97 + p.2])))) (c := tx [97 + p.2]) (v := .str (tx (lb ++ [97 + p.1]))) (ev_addS (ev_dget (ev_var rfl) (ev_abc (u := p.2) rfl s2) upd_same d1') (ev_abc (u := p.1) rfl s1) (by simp; omega)) (ev_var rfl) (ev_abc (u := p.2) rfl s2) upd_same (by omega) fun H6 e6 => ?_
        refine ⟨Ex.mut (e45.trans e6) hDH, ⟨_, _, rfl⟩, _, upd_same, ?_⟩
        rw [tk]
        exact hf.put b1 b2 a1 d1
      · obtain ⟨eH4, ⟨o2, o3, hs⟩, kvs, hk, hf⟩ := pv
        subst hs
        rw [List.length_map, c3, List.take_length] at hf
        refine s_ret (ev_var rfl) fun H5 e5 => k _ _ (eH4.trans e5) ⟨Dl, rfl, kvs, e5 _ _ hk, fun c h1 h2 => ?_⟩
        obtain ⟨l, l1, l2, l3⟩ := hf.val c h1 h2
        exact ⟨l, l1, by have := hv.few; omega, fun x => (l3 x).trans (frI_fr hv)⟩
end
end Ow

namespace Ow
open PySem PySem.Spec PyProof.Rows L2 Evl
/-! ### lists of one-sign texts, compared -/
def sD (c : Nat) : PyData := .str (tx [c])
theorem sD_ok {z : Nat} (h : z < 128) : PyData.strOk (tx [z]) = true := by
  have : ∀ z : Nat, z < 128 → PyData.strOk (tx [z]) = true := by decide +kernel
  exact this z h
theorem sDs_lay : ∀ zs : List Nat, (∀ z ∈ zs, z < 128) → PyData.canLayAll0 (zs.map sD) = true
  | [], _ => by simp [PyData.canLayAll0]
  | z :: zs, h => by simp [PyData.canLayAll0, sD, PyData.canLay0, sD_ok (h z List.mem_cons_self)]; exact sDs_lay zs fun y hy => h y (List.mem_cons_of_mem _ hy)
theorem sDs_depth : ∀ zs : List Nat, PyData.depthAll (zs.map sD) ≤ 1
  | [] => by simp [PyData.depthAll]
  | z :: zs => by
    have := sDs_depth zs
    have e : PyData.depthAll ((z :: zs).map sD) = max (PyData.depth (sD z)) (PyData.depthAll (zs.map sD)) := by simp only [List.map_cons, PyData.depthAll]
    have e2 : PyData.depth (sD z) = 0 := by simp only [sD, PyData.depth]
    rw [e, e2]
    omega
theorem sDs_shaped (zs : List Nat) (h : ∀ z ∈ zs, z < 128) : SeqAt.shaped (.list (zs.map sD)) = true := by
  have h1 := sDs_depth zs
  have h2 : PyData.depth (.list (zs.map sD)) ≤ 64 := by
    simp only [PyData.depth]
    omega
  show (PyData.canLay0 (.list (zs.map sD)) && decide (PyData.depth (.list (zs.map sD)) ≤ 64)) = true
  rw [Bool.and_eq_true]
  exact ⟨by simp only [PyData.canLay0]; exact sDs_lay zs h, decide_eq_true h2⟩
theorem sD_eqv (a b : Nat) : PyData.eqv (sD a) (sD b) = decide (a = b) := by
  have e : PyData.eqv (sD a) (sD b) = (tx [a] == tx [b]) := by simp only [sD, PyData.eqv]
  rw [e]
  by_cases h : a = b
  · subst h
    simp
  · rw [decide_eq_false h]
    exact beq_eq_false_iff_ne.mpr fun z => h (List.cons.inj (tx_inj z)).1
theorem sDs_eqv : ∀ zs ws : List Nat, PyData.eqv (.list (zs.map sD)) (.list (ws.map sD)) = decide (zs = ws)
  | [], [] => by simp [PyData.eqv, PyData.eqvAll]
  | [], _ :: _ => by simp [PyData.eqv, PyData.eqvAll]
  | _ :: _, [] => by simp [PyData.eqv, PyData.eqvAll]
  | a :: r, b :: t => by
    have ih := sDs_eqv r t
    have e : PyData.eqv (.list ((a :: r).map sD)) (.list ((b :: t).map sD)) = (PyData.eqv (sD a) (sD b) && PyData.eqv (.list (r.map sD)) (.list (t.map sD))) := by simp only [List.map_cons, PyData.eqv, PyData.eqvAll]
    rw [e, ih, sD_eqv]
    by_cases h : a = b
    · subst h
      simp
    · simp [h]
theorem dp_ones {K : PySem.W.Frag} {H : Hp} : ∀ zs : List Nat, DpAll K H (ones zs) (zs.map sD)
  | [] => .nil
  | z :: zs => .cons (.str _) (dp_ones zs)
section
variable {K : PySem.W.Frag} {σ : L2.St} {H H' : Hp} {ta tb td ty tv : TE} {F : Nat → Nat → Bool}
theorem same_sorted {u v zs ws : List Nat} (hu : u.Nodup) (hv : v.Nodup) (z1 : zs.Perm u) (z2 : zs.Pairwise (· ≤ ·)) (w1 : ws.Perm v) (w2 : ws.Pairwise (· ≤ ·)) :
    decide (zs = ws) = (decide (∀ a, a ∈ u → a ∈ v) && decide (∀ a, a ∈ v → a ∈ u)) := by
  rw [← Bool.decide_and]
  refine decide_eq_decide.mpr ⟨fun e => ?_, fun ⟨a, b⟩ => ?_⟩
  · subst e
    exact ⟨fun a ha => w1.mem_iff.mp (z1.mem_iff.mpr ha), fun a ha => z1.mem_iff.mp (w1.mem_iff.mpr ha)⟩
  · have p : u.Perm v := (List.perm_ext_iff_of_nodup hu hv).mpr fun x => ⟨a x, b x⟩
    exact perm_asc (z1.trans (p.trans w1.symm)) z2 w2
theorem ev_eqSorted {u v : List Nat} {p q : Addr} (h1 : Ev ta σ H (.ref p)) (h2 : Ev tb σ H (.ref q)) (hp : H p = some (.lst (ones u))) (hq : H q = some (.lst (ones v))) (hu : u.Nodup) (hv : v.Nodup) (lu : u.length < 64) (lv : v.length < 64) (bu : ∀ z ∈ u, z < 128) (bv : ∀ z ∈ v, z < 128) :
    Ev (tOp (rEqD K) (tCB (rSortedS K) (tCons ta tNil)) (tCB (rSortedS K) (tCons tb tNil))) σ H (.bl (decide (∀ a, a ∈ u → a ∈ v) && decide (∀ a, a ∈ v → a ∈ u))) := fun H1 e Q k =>
  evp_sortL (l := u) ((Ev.toP h1).weak fun v H2 e2 hv => ⟨p, hv, e2 _ _ hp⟩) lu H1 e _ fun x H2 e2 ⟨p2, zs, hx, hp2, z1, z2⟩ =>
    evp_sortL (l := v) ((Ev.toP h2).weak fun v H2 e2 hv => ⟨q, hv, e2 _ _ hq⟩) lv H2 (e.trans e2) _ fun y H3 e3 ⟨q2, ws, hy, hq2, w1, w2⟩ => by
      subst hx hy
      refine ⟨_, _, .lst (sq_of (e3 _ _ hp2)) (dp_ones zs), .lst (sq_of hq2) (dp_ones ws), sDs_shaped zs fun x hx => bu x (z1.mem_iff.mp hx), sDs_shaped ws fun x hx => bv x (w1.mem_iff.mp hx), ?_⟩
      rw [sDs_eqv, same_sorted hu hv z1 z2 w1 w2]
      exact k H3 (e2.trans e3)
/-- told[sign] -/
theorem ev_told {d : Addr} {n c i j : Nat} (hT : Told F n H d) (hi : σ[i]? = some (some (.ref d))) (hj : σ[j]? = some (some (.str (tx [c])))) (h1 : 97 ≤ c) (h2 : c < 97 + n) : ∃ l : List Nat, Ev (tDGet (tVar i) (tVar j)) σ H (.str (tx l)) ∧ ∀ x, l.contains x = F x c := by
  obtain ⟨kvs, hk, hv⟩ := hT.ex
  obtain ⟨l, l1, _, l3⟩ := hv c h1 h2
  refine ⟨l, ev_dget (ev_var hi) (ev_var hj) hk l1, fun x => ?_⟩
  rw [Bool.eq_iff_iff, List.contains_iff_mem, l3]
end
section
variable {P : Program} {w : World} {K : PySem.W.Frag} {mg : Str → Option Value} {base : Heap} (T : Txt K mg)
theorem ok_is_kind (GS : FnOk P w K mg base CX0 1 T.is_set.f T.is_set.d ["company", "value"] spIsSet) (GF : FnOk P w K mg base CX0 1 T.friends_of_all.f T.friends_of_all.d ["company"] spFriends)
    (GL : FnOk P w K mg base CX0 1 T.least_order.f T.least_order.d ["told", "order"] spLeast) : FnOk P w K mg base CX0 2 T.is_kind.f T.is_kind.d ["company", "value"] spIsKind := by
  refine T.is_kind.F.ok sc_is_kind (fun vs H Q E h => ?_) (fun cdv A outer s H vs Q E hr h => ?_)
  · obtain ⟨c, n, ps, k, rfl, _⟩ := h
    rfl
  · obtain ⟨c, n, ps, kd, rfl, hc, hv, hk, k⟩ := h
    refine ⟨_, pss_cons (ps_if (PW.pt (pw_or (pt_not (pt_val (pe_callB call_isi (by rfl) T.z_isinstance (by decide +kernel) (pa_cons (pv 1) (pa_cons (pe_bltn (v := .ty "str") (by rfl) T.z_str (by decide +kernel) rfl) pa_nil)))))
          (pw_or (pt_cmpR op_gt (pe_callB call_len_str (by rfl) T.z_len PySem.boot_len (pa_cons (pv 1) pa_nil)) (pe_ix ix_tup (pv 0) pe_int (fun _ _ => rfl)) (nomark _))
          (pw_or1 (pt_not (pt_val (pe_call GS hr (by rfl) T.is_set.g T.is_set.F.kp T.is_set.b .nil pass0 (pa_cons (pv 0) (pa_cons (pe_join pe_str (pe_callB (call_sortT rfl) (by rfl) T.z_sorted (by decide +kernel) (pa_cons (pv 1) pa_nil))) pa_nil))))))))) pss_never pss_nil)
      (pss_one (ps_ret (pe_cmpR op_eq (pe_call GL hr (by rfl) T.least_order.g T.least_order.F.kp T.least_order.b .nil pass0 (pa_cons (pe_call GF hr (by rfl) T.friends_of_all.g T.friends_of_all.F.kp T.friends_of_all.b .nil pass0 (pa_cons (pv 0) pa_nil)) (pa_cons (pv 1) pa_nil))) (pv 1) (nomark _)))), ?_⟩
    obtain ⟨q, rs, c1, c2, c3, c4⟩ := hc.ex
    have hn := hv.hi
    have lk := Lt.nodup_len hk.wd
    refine q_when (b := false) (et_or (a := false) (b := false) (et_not (a := true) (et_B (ev_isi (ev_var rfl) ev_c (fun _ _ => .base (.str _)) (by decide +kernel : kitB "str" "str" = some true)))) fun _ => et_or (a := false) (b := false) (et_test (ev_is (ev_op (ev_lenS (ev_var rfl) (by omega)) (ev_op (ev_var rfl) ev_c (rv_ixT (st_of c1) (atI_nat (j := 0) rfl))) rv_I0) (by rw [decide_eq_false (by omega)])))
        fun _ => et_not (a := true) (et_B fun H1 e1 Q1 q1 => ?_)) (fun z => nomatch z) fun _ H1 e1 => ?_
    · refine ⟨_, rfl, ⟨_, rfl⟩, ?_⟩
      refine evp_sortT (l := kd) (ev_var rfl) (by omega) H1 e1 _ fun v H2 e2 ⟨p, zs, hv2, hp, z1, z2⟩ => ?_
      subst hv2
      refine ⟨tx [], p, zs.map one1, by rw [tx_nil], rfl, .inl (sq_of (by rw [hp, List.map_map]; rfl)), ?_, ?_⟩
      · rw [sum_one1]
        have t0 : (tx []).length = 0 := rfl
        have := z1.length_eq
        rw [t0]
        omega
      · rw [join_ones]
        exact ⟨c, n, ps, zs, rfl, hc.mono (e1.trans e2), hv, asc_of_nodup z2 (z1.nodup_iff.mpr hk.kd.nd), fun x hx => hk.lt x (z1.mem_iff.mp hx), fun H3 e3 => q1 H3 (e2.trans e3)⟩
    · refine s_ret (v := .bl true) (ev_is (ev_eqS (a := nf (fr ps) kd) (fun H2 e2 Q2 q2 => ?_) (ev_var rfl)) (by rw [hk.kd.lo]; simp)) fun H2 e2 => k H2 (e1.trans e2)
      refine evp_call (vs := [.ref c]) (P := fun v H2 => ∃ d, v = .ref d ∧ Told (fr ps) n H2 d) (ea_cons (ev_var rfl) ea_nil) (fun H3 e3 Q q E => ⟨c, n, ps, rfl, hc.mono (e1.trans e3), hv, q⟩) H2 e2 _ fun v H3 e3 ⟨d, hd, hT⟩ => ?_
      subst hd
      exact ⟨_, rfl, d, fr ps, n, kd, rfl, hT, hn, hk.wd, fun H4 e4 => q2 H4 (e3.trans e4)⟩
end
end Ow

namespace Ow
open PySem PySem.Spec PyProof.Rows L2 Evl
theorem bef_nodup {w : List Nat} (h : w.Nodup) (b : Nat) : (bef w b).Nodup := h.sublist (List.takeWhile_sublist _)
theorem fa_nodup {F : Nat → Nat → Bool} {w : List Nat} (h : w.Nodup) (b : Nat) : (fa F w b).Nodup := (bef_nodup h b).sublist List.filter_sublist
theorem fa_len {F : Nat → Nat → Bool} {w : List Nat} {b : Nat} : (fa F w b).length ≤ w.length := Nat.le_trans (List.length_filter_le _ _) bef_len
section
variable {K : PySem.W.Frag} {σ : L2.St} {H H' : Hp}
/-- [more for more in w[:w.index(sign)] if more in told[sign]] -/
theorem el_ahead {d : Addr} {F : Nat → Nat → Bool} {n c i : Nat} {w : List Nat} (hT : Told F n H d) (h0 : σ[0]? = some (some (.ref d))) (hi : σ[i]? = some (some (.str (tx w)))) (h4 : σ[4]? = some (some (.str (tx [c])))) (hl : σ.length = 8) (hc : c ∈ w) (c1 : 97 ≤ c) (c2 : c < 97 + n) (hw : w.length ≤ 1000) (i7 : i < 7) :
    EvL (tLc (iStr (tSl rSlS (tVar i) tNoPart (tPart (tM1 rIx1 (tVar i) (tVar 4))))) (gName 7) (tTest (tOp (fun x y H Q => ∃ (c : Nat) (z : Str), x = .str ⟨#[c]⟩ ∧ y = .str z ∧ Q (.bl (decide (c ∈ z.cps.toList))) H) (tVar 7) (tDGet (tVar 0) (tVar 4)))) (tVar 7) [7]) σ H (ones (fa F w c)) := by
  have wp : wipe σ [7] = σ.set 7 none := rfl
  have s0 : ∀ x, ((wipe σ [7]).set 7 (some x))[0]? = some (some (.ref d)) := fun x => by rw [wp, List.set_set, List.getElem?_set_ne (by decide)]; exact h0
  have s4 : ∀ x, ((wipe σ [7]).set 7 (some x))[4]? = some (some (.str (tx [c]))) := fun x => by rw [wp, List.set_set, List.getElem?_set_ne (by decide)]; exact h4
  have s7 : ∀ x : V, ((wipe σ [7]).set 7 (some x))[7]? = some (some x) := fun x => by rw [wp, List.set_set, List.getElem?_set_self (by omega)]
  have tk := take_ix hc
  have bl : (bef w c).length ≤ w.length := bef_len
  have := el_lcF (bef w c) (fun a => V.str (tx [a])) (fun a => F a c) (fun a => V.str (tx [a])) (vs := [7]) (j := 7) (σ := σ) (H := H) (wi := iStr (tSl rSlS (tVar i) tNoPart (tPart (tM1 rIx1 (tVar i) (tVar 4)))))
    (tt := tTest (tOp (fun x y H Q => ∃ (c : Nat) (z : Str), x = .str ⟨#[c]⟩ ∧ y = .str z ∧ Q (.bl (decide (c ∈ z.cps.toList))) H) (tVar 7) (tDGet (tVar 0) (tVar 4)))) (te := tVar 7)
    (by
      have := evx_str (ev_slTake (to := tNoPart) (ev_var (H := H) hi) (ev_ix (ev_var hi) (ev_var h4) hc) bl (by omega))
      rw [tk] at this
      exact this) (by omega) (fun x => by rw [wp, List.set_set]; show (σ.set 7 (some x)).set 7 none = _; rw [List.set_set]) (fun z H1 hz e => by
        obtain ⟨l, hl, hf⟩ := ev_told (σ := (wipe σ [7]).set 7 (some (V.str (tx [z])))) (i := 0) (j := 4) (hT.mono e) (s0 _) (s4 _) c1 c2
        have := et_test (ev_inS (ev_var (s7 _)) hl)
        rw [hf] at this
        exact this) (fun z H1 hz hp e => ev_var (s7 _))
  exact this
end
theorem room64 {k : Nat} {A : Around} (r : Room k A) : A.units + 64 < cLine := by
  have := r.un
  omega
section
variable {P : Program} {w : World} {K : PySem.W.Frag} {mg : Str → Option Value} {base : Heap} (T : Txt K mg)
theorem ok_common_of (GL : FnOk P w K mg base CX0 1 T.least_order.f T.least_order.d ["told", "order"] spLeast) : FnOk P w K mg base CX0 2 T.common_of.f T.common_of.d ["told", "one", "other"] spCommonOf := by
  refine T.common_of.F.ok sc_common_of (fun vs H Q E h => ?_) (fun cdv A outer s H vs Q E hr h => ?_)
  · obtain ⟨d, F, n, a, b, rfl, _⟩ := h
    rfl
  · obtain ⟨d, F, n, one, other, rfl, hT, hn, ha, hb, k⟩ := h
    refine ⟨_, pss_cons (ps_set (i := 3) sc_common_of.nd rfl (.inr rfl) pe_str)
      (pss_cons (ps_for PassesOwn.never rfl (pi_str (pv 1)) (pg_name (i := 4) sc_common_of.nd rfl (.inr rfl))
        (pss_one (ps_if (pt_cmpR op_in_sign (pv 4) (pv 2) rfl)
          (pss_cons (ps_setLc (i := 5) (own := [("more", 7)]) (g := gName 7) rfl sc_common_of.nd rfl rfl (sw_true rfl rfl rfl (by decide +kernel)) (pi_str (pe_slice sl_str (pv 1) po_none (po_some (pe_index (pv 1) (pv 4)))))
            (blkOk_by (N := ["told", "one", "other", "found", "sign", "needs", "wants", "more"]) (sc := defScope s_common_of) (by decide +kernel)) (fun _ _ _ _ _ => pg_name (i := 7) sc_common_of.nd rfl (.inl rfl)) (fun _ _ _ _ _ => pts_one (pt_cmpR op_in_sign (pv 7) (pe_dget (room1 hr) (pv 0) (pv 4) (fun _ _ => rfl)) rfl)) (fun _ _ _ _ _ => pv 7))
          (pss_cons (ps_setLc (i := 6) (own := [("more", 7)]) (g := gName 7) rfl sc_common_of.nd rfl rfl (sw_true rfl rfl rfl (by decide +kernel)) (pi_str (pe_slice sl_str (pv 2) po_none (po_some (pe_index (pv 2) (pv 4)))))
            (blkOk_by (N := ["told", "one", "other", "found", "sign", "needs", "wants", "more"]) (sc := defScope s_common_of) (by decide +kernel)) (fun _ _ _ _ _ => pg_name (i := 7) sc_common_of.nd rfl (.inl rfl)) (fun _ _ _ _ _ => pts_one (pt_cmpR op_in_sign (pv 7) (pe_dget (room1 hr) (pv 0) (pv 4) (fun _ _ => rfl)) rfl)) (fun _ _ _ _ _ => pv 7))
          (pss_one (ps_if (PW.pt (pw_and (pt_cmpR (op_eqD (room64 hr)) (pe_callB cr_sortedS (by rfl) T.z_sorted (by decide +kernel) (pa_cons (pv 5) pa_nil)) (pe_callB cr_sortedS (by rfl) T.z_sorted (by decide +kernel) (pa_cons (pv 6) pa_nil)) (nomark _))
              (pw_and1 (pt_val (pe_callB (cr_all rfl) (by rfl) T.z_all (by decide +kernel) (pa_cons (pe_lc (own := [("more", 7)]) (g := gName 7) rfl sc_common_of.nd (pi_list (pv 5)) (blkOk_by (N := ["told", "one", "other", "found", "sign", "needs", "wants", "more"]) (sc := defScope s_common_of) (by decide +kernel)) (fun _ _ _ _ _ => pg_name (i := 7) sc_common_of.nd rfl (.inl rfl))
                (fun _ _ _ _ _ => pts_nil) (fun _ _ _ _ _ => pe_cmpR op_in_sign (pv 7) (pv 3) rfl)) pa_nil))))))
            (pss_one (ps_set (i := 3) sc_common_of.nd rfl (.inr rfl) (pe_op op_add_str (pv 3) (pv 4)))) pss_nil)))) pss_nil)))
      (pss_one (ps_ret (pe_call GL hr (by rfl) T.least_order.g T.least_order.F.kp T.least_order.b .nil pass0 (pa_cons (pv 0) (pa_cons (pv 3) pa_nil)))))), ?_⟩
    have la := Lt.nodup_len ha
    have lb := Lt.nodup_len hb
    refine q_asg ev_c fun H1 e1 => ?_
    rw [tx_nil]
    refine q_forX (evx_str (ev_var rfl)) (fun H0 xs i σ' H' => Ex H1 H0 ∧ Ex H0 H' ∧ ∃ o4 o5 o6 found, σ' = [some (.ref d), some (.str (tx one)), some (.str (tx other)), some (.str (tx found)), o4, o5, o6, none] ∧ found.length ≤ i ∧ cmA F one other (one.drop i) found = cm0 F one other) (fun H0 xs i σ' H' pv => pv.2.1)
      (fun xs H2 e2 _ => ⟨e2, Ex.refl _, none, none, none, [], rfl, Nat.le_refl _, rfl⟩) (fun H0 xs i x σ' H' e0 hI hx pv => ?_) (fun H0 xs σ' H' e0 hI pv => ?_)
    · obtain ⟨p0, p1, o4, o5, o6, found, hs, hf, hcm⟩ := pv
      subst hs
      subst hI
      have hi : i < one.length := by have := (List.getElem?_eq_some_iff.mp hx).1; simpa using this
      rw [List.getElem?_map, List.getElem?_eq_getElem hi] at hx
      have hx := Option.some.inj hx
      subst hx
      have dr : one.drop i = one[i] :: one.drop (i + 1) := List.drop_eq_getElem_cons hi
      have hmem : one[i] ∈ one := List.getElem_mem hi
      rw [dr] at hcm
      generalize one[i] = c at hcm hmem
      obtain ⟨c1, c2⟩ := ha.lt c hmem
      have eH : Ex H H' := (e1.trans p0).trans p1
      have sm : ∀ w : List Nat, Wd n w → ∀ b, ∀ z ∈ fa F w b, z < 128 := fun w hw b z hz => by
        have := hw.lt z (bef_sub (mem_fa.mp hz).1)
        omega
      have skip : ∀ (o4 o5 o6 : Option V) (H2 : Hp), Ex H' H2 → joins F one other found c = false → Ex H1 H0 ∧ Ex H0 H2 ∧ ∃ p4 p5 p6 found2, [some (.ref d), some (.str (tx one)), some (.str (tx other)), some (.str (tx found)), o4, o5, o6, none] = [some (.ref d), some (.str (tx one)), some (.str (tx other)), some (.str (tx found2)), p4, p5, p6, none] ∧ found2.length ≤ i + 1 ∧ cmA F one other (one.drop (i + 1)) found2 = cm0 F one other := fun o4 o5 o6 H2 e2 hj => by
        refine ⟨p0, p1.trans e2, o4, o5, o6, found, rfl, by omega, ?_⟩
        have : cmA F one other (c :: one.drop (i + 1)) found = cmA F one other (one.drop (i + 1)) found := by
          show cmA F one other (one.drop (i + 1)) (if joins F one other found c = true then found ++ [c] else found) = _
          rw [if_neg (by rw [hj]; exact Bool.false_ne_true)]
        rw [← this]
        exact hcm
      refine s_when (b := other.contains c) (et_test (ev_inS (ev_var rfl) (ev_var rfl))) (fun hco H2 e2 => ?_) fun hco H2 e2 => skip _ _ _ H2 e2 (by unfold joins; rw [hco, Bool.false_and, Bool.false_and])
      have hco' : c ∈ other := by simpa using hco
      refine q_asgL (el_ahead (i := 1) (hT.mono (eH.trans e2)) rfl rfl rfl rfl hmem c1 c2 (by omega) (by decide)) fun p5 H3 _ e3 h5 => ?_
      refine q_asgL (el_ahead (i := 2) (hT.mono ((eH.trans e2).trans e3)) rfl rfl rfl rfl hco' c1 c2 (by omega) (by decide)) fun p6 H4 _ e4 h6 => ?_
      have l1 : (fa F one c).length ≤ one.length := fa_len
      have l2 : (fa F other c).length ≤ other.length := fa_len
      have h5' := e4 _ _ h5
      refine s_when (b := (decide (∀ a, a ∈ fa F one c → a ∈ fa F other c) && decide (∀ a, a ∈ fa F other c → a ∈ fa F one c)) && (fa F one c).all (fun a => found.contains a))
        (et_and (et_test (ev_eqSorted (ev_var rfl) (ev_var rfl) h5' h6 (fa_nodup ha.nd c) (fa_nodup hb.nd c) (by omega) (by omega) (sm one ha c) (sm other hb c)))
          fun _ => et_B (ev_alls (zs := fa F one c) (f := fun a => found.contains a) (el_lcF (fa F one c) (fun a => V.str (tx [a])) (fun _ => true) (fun a => V.bl (found.contains a)) (evx_list (ev_var rfl) (sq_of h5')) (by omega) (fun x => rfl) (fun z H5 _ _ => et_yes) (fun z H5 _ _ _ => ev_inS (ev_var rfl) (ev_var rfl))))) (fun hj H5 e5 => ?_) fun hj H5 e5 => ?_
      · refine s_asg (ev_addS (ev_var rfl) (ev_var rfl) (by simp; omega)) fun H6 e6 => ?_
        refine ⟨p0, ((((p1.trans e2).trans e3).trans e4).trans e5).trans e6, _, _, _, found ++ [c], rfl, by rw [List.length_append]; simp; omega, ?_⟩
        have hj2 : joins F one other found c = true := by unfold joins; rw [hco, Bool.true_and]; exact hj
        have : cmA F one other (c :: one.drop (i + 1)) found = cmA F one other (one.drop (i + 1)) (found ++ [c]) := by
          show cmA F one other (one.drop (i + 1)) (if joins F one other found c = true then found ++ [c] else found) = _
          rw [if_pos hj2]
        rw [← this]
        exact hcm
      · have hj2 : joins F one other found c = false := by unfold joins; rw [hco, Bool.true_and]; exact hj
        exact skip _ _ _ H5 (((e2.trans e3).trans e4).trans e5) hj2
    · obtain ⟨p0, p1, o4, o5, o6, found, hs, hf, hcm⟩ := pv
      subst hs
      subst hI
      rw [List.length_map, List.drop_length] at hcm
      have hcm : found = cm0 F one other := hcm
      subst hcm
      have hI := cm0_inv (F := F) (other := other) ha.nd
      refine s_ret (v := .str (tx (cm F one other))) (ev_call0 (ea_cons (ev_var rfl) (ea_cons (ev_var rfl) ea_nil)) fun H2 e2 Q q E => ⟨d, F, n, cm0 F one other, rfl, hT.mono (((e1.trans p0).trans p1).trans e2), hn, ⟨cm0_nodup ha.nd, fun x hx => ha.lt x (hI.sub.subset hx)⟩, fun H3 e3 => q H3 e3⟩) fun H2 e2 => k H2 (((e1.trans p0).trans p1).trans e2)
end
end Ow

namespace Ow
open PySem PySem.Spec PyProof.Rows L2 Evl
open AutoSeq1 (wpAny_loadPart')
/-! ### enumerate(tuple) -/
theorem meets_enumT (l : Addr) (items : Array Value) :
    Meets (Builtin.«enumerate.__new__» ⟨[.type "enumerate", .ref l], []⟩) (fun _ R s => s.heap.IsTuple l items ∧
      R (.ok (.ret (.ref (s.heap.push { cls := .type "tuple_iterator", data := .fields #[.ref l, .int 0 0] }).objs.size)))
        { s with heap := (s.heap.push { cls := .type "tuple_iterator", data := .fields #[.ref l, .int 0 0] }).push { cls := .type "enumerate", data := .fields #[.none, .bool false, .ref s.heap.objs.size, rawInt 0, .none, .none] } }) :=
  .of_wp fun prog w A R s h => by
    obtain ⟨hp, g, d, tk, os⟩ := s
    obtain ⟨hl, h⟩ := h
    have hsub := sub_enumerate
    have q1 : ∀ {A' : Around} {E : Value → Shared → Prop} {Q : Value → Shared → Prop}, Q (.ref hp.objs.size) ⟨hp.push { cls := .type "tuple_iterator", data := .fields #[.ref l, .int 0 0] }, g, d, tk, os⟩ → wpAny (model prog w) A' (pyIter (.ref l)) Q E ⟨hp, g, d, tk, os⟩ := fun q => wpAny_pyIter_tuple (s := ⟨hp, g, d, tk, os⟩) hl q
    wp_walk using q1
    refine wpAny_stack_any fun st => wpAny_pure ?_
    split
    · rename_i c _ _ _ _ _
      cases (c == Value.type "enumerate")
      · wp_walk using q1
        exact ⟨_, rfl, h⟩
      · wp_walk using q1
        exact ⟨_, rfl, h⟩
    · wp_walk using q1
      exact ⟨_, rfl, h⟩
section
variable {prog : Program} {w : World} {A : Around} {E : Value → Shared → Prop} {s : Shared}
theorem call_enumT {l : Addr} {items : Array Value} {Q : Value → Shared → Prop} (hL : s.heap.IsTuple l items)
    (h : ∀ h', IsEnum h' (s.heap.objs.size + 1) s.heap.objs.size 0 .none → h'.IsTupleIter s.heap.objs.size l 0 → (∀ b o, s.heap.get? b = some o → h'.get? b = some o) → Q (.ref (s.heap.objs.size + 1)) { s with heap := h' }) :
    wpAny (model prog w) A (call (.type "enumerate") [.ref l]) Q E s := by
  refine callType_new F.called_enumerate (by decide) (F.typeCall_enumerate_1 _) (F.newCall_enumerate_1 _) (fun obj => F.args_object_init_2 obj _) F.entry_enumerate_new (meets_enumT l items) ⟨hL, ?_⟩
  generalize ho : ({ cls := .type "tuple_iterator", data := .fields #[.ref l, .int 0 0] } : Obj) = o
  have hz : (s.heap.push o).objs.size = s.heap.objs.size + 1 := Heap.size_push ..
  show _ ∧ _
  rw [hz]
  have he : IsEnum ((s.heap.push o).push { cls := .type "enumerate", data := .fields #[.none, .bool false, .ref s.heap.objs.size, rawInt 0, .none, .none] }) (s.heap.objs.size + 1) s.heap.objs.size 0 .none := by
    have := Heap.get?_push_size (s.heap.push o) (o := { cls := .type "enumerate", data := .fields #[.none, .bool false, .ref s.heap.objs.size, rawInt 0, .none, .none] }) rfl
    rwa [hz] at this
  have hfr : o.isFreed = false := by subst ho; rfl
  have hcl : o.cls = .type "tuple_iterator" := by subst ho; rfl
  have hda : o.data = .fields #[.ref l, .int ((0 : Nat) : Int) 0] := by subst ho; rfl
  exact ⟨⟨_, he, rfl⟩, h _ he ⟨_, Heap.get?_push_of_some _ (Heap.get?_push_size _ hfr), hcl, hda⟩ fun b o x => Heap.get?_push_of_some _ (Heap.get?_push_of_some _ x)⟩
end
def IteT (K : PySem.W.Frag) (a : Addr) : It :=
  ⟨fun i H => ∃ (xs : List V) (x : V), SqT K H a xs ∧ xs[i]? = some x, fun i H v H' => ∃ T x, v = .ref T ∧ H T = none ∧ H' = upd H T (.tup [.int (i : Nat), x]) ∧ ∀ xs, SqT K H a xs → xs[i]? = some x, fun i H => ∃ xs : List V, SqT K H a xs ∧ xs.length ≤ i⟩
theorem turn_enumT {P : Program} {w : World} {K : PySem.W.Frag} {elts : List Expr} {kk : Nat} {tpos : Pos} (a e it : Addr) :
    Turn P w K (.Tuple elts kk tpos) (IteT K a) [e, it] e (fun i h => (∃ old, IsEnum h e it ((i : Nat) : Int) old) ∧ h.IsTupleIter it a i ∧ e ≠ it ∧ a ≠ it ∧ a ≠ e) where
  mem := List.mem_cons_self
  obj := fun i h st b hb => by
    obtain ⟨⟨old, he⟩, ⟨o, ho, hc, hd⟩, _⟩ := st
    rcases List.mem_cons.mp hb with rfl | hb
    · exact ⟨_, he, fun v q => nomatch q⟩
    · rw [List.mem_singleton] at hb
      subst hb
      exact ⟨o, ho, fun v q => by rw [hd] at q; cases q⟩
  keep := fun i h h' ⟨⟨old, he⟩, hi, hne⟩ k => ⟨⟨old, k e List.mem_cons_self _ he⟩, hi.at fun o q => k it (by simp) o q, hne⟩
  item := by
    intro X hP hw hK hc i pins s σ H E I hf st hg
    subst hP hw hK
    obtain ⟨⟨old, he⟩, hit, hne, ai, ae⟩ := st
    obtain ⟨xs, x, hq, hx⟩ := hg
    obtain ⟨its, rv, ht, hz⟩ := I.tuple hq
    obtain ⟨u, hu, ru⟩ := rv.get hx
    have hel : e < s.heap.objs.size := Heap.lt_size he
    have hil : it < s.heap.objs.size := by obtain ⟨_, q, _⟩ := hit; exact Heap.lt_size q
    have D := Draws.tuple (prog := X.prog) (w := X.w) (A := X.A.in1) (I.ok.hd hc) it a ai its.toArray
    have hlen : i < its.toArray.size := by have := (List.getElem?_eq_some_iff.mp hu).1; simpa using this
    have hef : e ∉ [it, a] := fun h => by
      rcases List.mem_cons.mp h with h | h
      · exact hne h
      · exact ae (List.mem_singleton.mp h).symm
    refine wpAny_pyNext_enum_itemD D he ⟨hit, ht⟩ hlen hne hef fun x' h' tk hx' ho hst hT hsz hk => ?_
    have ex : x' = u := by
      have : (its.toArray)[i]? = some u := by simpa using hu
      rw [this] at hx'
      exact (Option.some.inj hx').symm
    subst ex
    refine ⟨_, rfl, wpAny_letOwnedTupleGo_enum (s := { s with heap := h', toks := tk + 1 }) ho fun h'' he' sb => ?_⟩
    have hT2 : h''.get? s.heap.objs.size = some { cls := .type "tuple", data := .seq #[.int i tk, x'] } := (sb.2 _ (Nat.ne_of_gt hel)).trans hT
    have new : ObjOk X.prog X.w (upd H s.heap.objs.size (.tup [.int (i : Nat), x])) h'' s.heap.objs.size (.tup [.int (i : Nat), x]) :=
      ⟨show 2 ≤ sizeLine by decide, [.int i tk, x'], .cons ⟨_, rfl⟩ (.cons ru .nil), ⟨_, hT2, rfl, _, rfl⟩⟩
    have I1 : Inv X pins σ (upd H s.heap.objs.size (.tup [.int (i : Nat), x])) { s with heap := h'', toks := tk + 1 } :=
      I.turnedNew (ch := [e, it]) (fun b ob hb q => (sb.2 b (fun z => hb (z ▸ List.mem_cons_self))).trans (hk b ob (fun z => hb (z ▸ List.mem_cons_self)) (fun z => hb (List.mem_cons_of_mem _ (z ▸ List.mem_singleton.mpr rfl))) q)) hf (Nat.le_refl _) new
    refine ⟨.ref s.heap.objs.size, _, I1, rfl, ⟨_, x, rfl, I.hok.fresh (Nat.le_refl _), rfl, fun ys hy => by rw [I.tuple_inj hy hq]; exact hx⟩, ⟨⟨x', ?_⟩, hst.1.at fun o q => (sb.2 it (Ne.symm hne)).trans q, hne, ai, ae⟩, fun b hb => ?_⟩
    · rw [Int.natCast_succ]
      exact he'
    · have hb' : b < s.heap.objs.size := by
        rcases List.mem_cons.mp hb with z | z
        · exact z ▸ hel
        · exact (List.mem_singleton.mp z) ▸ hil
      rw [upd_ne (Nat.ne_of_lt hb')]
      exact (hf b hb).1
  done := by
    intro X hP hw hK hc i pins s σ H E I hf st hg
    subst hP hw hK
    obtain ⟨⟨old, he⟩, hit, hne, ai, ae⟩ := st
    obtain ⟨xs, hq, hx⟩ := hg
    obtain ⟨its, rv, ht, hz⟩ := I.tuple hq
    have hl := rv.length
    have hh : X.A.in1.handled = none := I.ok.hd hc
    have D : Draws X.prog X.w X.A.in1 it [it, a] i (fun _ _ => False) (fun j h => j = i ∧ h.IsTupleIter it a i ∧ h.IsTuple a its.toArray) :=
      { live := fun _ _ st => let ⟨o, ho, _⟩ := st.2.1; ⟨o, ho⟩
        frame := fun _ _ _ st hk => ⟨st.1, st.2.1.at fun o e => hk it (by simp) o e, st.2.2.at fun o e => hk a (by simp) o e⟩
        item := fun j s Q E hi st hQ => absurd st.1 (Nat.ne_of_lt hi)
        done := fun s Q E st hE => wpAny_nextOf_tuple_end hh st.2.1 st.2.2 (by simp; omega) hE }
    obtain ⟨f0, f1, f2, f3, f4, f5⟩ := hf it (by simp)
    exact wpAny_pyNext_enum_endD D he ⟨rfl, hit, ht⟩ fun h' eb => ⟨rfl, I.turned (t' := s.toks) (fun b o hb q => eb b o hb q) f0 f1 f3 f4 f5⟩
  self := fun A i s Q E ⟨⟨_, he⟩, _⟩ h => wpAny_pyIter_enum he h
def iEnumT (K : PySem.W.Frag) (ta : TA) : TI := fun σ H R => ta σ H fun vs H1 => ∃ a xs, vs = [.ref a] ∧ SqT K H1 a xs ∧ R (IteT K a) H1
theorem pi_enumT {X : Cx} {e : Expr} {ta : TA} {p pos tpos : Pos} {elts : List Expr} {kk : Nat} (hg : Gl X "enumerate") (hm : X.mg "enumerate" = none) (ha : PA X [e] ta) (hs : starEach [e] X.env = [(false, eval e X.env)] := by rfl) :
    PI X (.Tuple elts kk tpos) (.Call (.Name "enumerate" p) [e] [] pos) (iEnumT X.K ta) := by
  refine ⟨fun pins s σ H R I h => Call_ (ld_blt I hg hm boot_enumerate (PyProof.Rows.callWith_type1 (thn (ha.run pos pins s σ H _ I h) fun us s1 ⟨vs, H1, I1, r1, q1⟩ => ?_) hs rfl))⟩
  obtain ⟨a, xs, ex, hq, q⟩ := q1
  subst ex
  rw [Vals.ref1 r1]
  obtain ⟨its, rv, ht, hz⟩ := I1.tuple hq
  have hlt : a < s1.heap.objs.size := ht.lt
  refine call_enumT ht fun h' he hit hk => wpAny_pyIter_enum he ?_
  refine ⟨s1.heap.objs.size + 1, [s1.heap.objs.size + 1, s1.heap.objs.size], _, _, H1, rfl, I1.kept (t' := s1.toks) hk, turn_enumT a (s1.heap.objs.size + 1) s1.heap.objs.size, ⟨⟨.none, he⟩, hit, Nat.succ_ne_self _, Nat.ne_of_lt hlt, Nat.ne_of_lt (Nat.lt_succ_of_lt hlt)⟩, fun b hb => ?_, q⟩
  have hle : s1.heap.objs.size ≤ b := by
    rcases List.mem_cons.mp hb with z | z
    · exact z ▸ Nat.le_succ _
    · exact (List.mem_singleton.mp z) ▸ Nat.le_refl _
  exact I1.fpOk hle (I1.hok.fresh hle)
end Ow

namespace Ow
open PySem PySem.Spec PyProof.Rows L2 Evl
theorem walk_enumT {K : PySem.W.Frag} {a : Addr} {xs : List V} : Walk (IteT K a) xs.length (fun H => SqT K H a xs) (fun i H v H' => ∃ T x, v = .ref T ∧ H T = none ∧ H' = upd H T (.tup [.int (i : Nat), x]) ∧ xs[i]? = some x) where
  goes := fun i H hi h => ⟨xs, xs[i], h, List.getElem?_eq_getElem hi⟩
  stops := fun H h => ⟨xs, h, Nat.le_refl _⟩
  yields := fun i H v H' hi h ⟨T, x, e1, e2, e3, e4⟩ => ⟨T, x, e1, e2, e3, e4 xs h⟩
theorem s_forEnumT {K : PySem.W.Frag} {ta : TA} {σ : L2.St} {H : Hp} {g : TG} {tu : TS} {D : Ends} {a : Addr} {xs : List V} (h : EvA ta σ H [.ref a]) (hx : SqT K H a xs) (Pv : Nat → L2.St → Hp → Prop) (h0 : ∀ H1, Ex H H1 → Pv 0 σ H1) (hl : ∀ i σ' H', i ≤ xs.length → Pv i σ' H' → SqT K H' a xs)
    (hs : ∀ i x T σ' H', xs[i]? = some x → Pv i σ' H' → H' T = none → g (.ref T) σ' (upd H' T (.tup [.int (i : Nat), x])) fun σ2 H2 => tu { D with nx := Pv (i + 1), ct := Pv (i + 1), bk := D.nx } σ2 H2) (hd : ∀ σ' H', Pv xs.length σ' H' → D.nx σ' H') : tFor (iEnumT K ta) g tu D σ H :=
  h H (Ex.refl H) _ fun H1 e => ⟨a, xs, rfl, ex_t e hx, for_it walk_enumT Pv (h0 H1 e) hl (fun i x σ' H' H'' hi pv y => by
    obtain ⟨T, v, rfl, hT, rfl, hv⟩ := y
    exact hs i v T σ' H' hv pv hT) hd⟩
theorem le_pairs {p q : Nat × Nat} (h : lt2 q p) : Ob.lexAt (fun j => decide (([(p.1 : Int), (p.2 : Int)] : List Int).getD j 0 = ([(q.1 : Int), (q.2 : Int)] : List Int).getD j 0)) (fun j => decide (([(p.1 : Int), (p.2 : Int)] : List Int).getD j 0 ≤ ([(q.1 : Int), (q.2 : Int)] : List Int).getD j 0))
    (decide (([(p.1 : Int), (p.2 : Int)] : List Int).length ≤ ([(q.1 : Int), (q.2 : Int)] : List Int).length)) 0 (min ([(p.1 : Int), (p.2 : Int)] : List Int).length ([(q.1 : Int), (q.2 : Int)] : List Int).length) = false := by
  show Ob.lexAt _ _ _ 0 2 = false
  rw [Ob.lexAt_succ, Ob.lexAt_succ, Ob.lexAt_zero]
  have h0 : ([(p.1 : Int), (p.2 : Int)] : List Int).getD 0 0 = (p.1 : Int) := rfl
  have h1 : ([(q.1 : Int), (q.2 : Int)] : List Int).getD 0 0 = (q.1 : Int) := rfl
  have h2 : ([(p.1 : Int), (p.2 : Int)] : List Int).getD (0 + 1) 0 = (p.2 : Int) := rfl
  have h3 : ([(q.1 : Int), (q.2 : Int)] : List Int).getD (0 + 1) 0 = (q.2 : Int) := rfl
  rw [h0, h1, h2, h3]
  unfold lt2 at h
  by_cases e1 : (p.1 : Int) = q.1
  · rw [decide_eq_true e1, if_pos rfl]
    by_cases e2 : (p.2 : Int) = q.2
    · omega
    · rw [decide_eq_false e2, if_neg Bool.false_ne_true]
      exact decide_eq_false (by omega)
  · rw [decide_eq_false e1, if_neg Bool.false_ne_true]
    exact decide_eq_false (by omega)
theorem room0 {k : Nat} {A : Around} (r : Room k A) : A.units < cLine := by
  have := r.un
  omega
section
variable {P : Program} {w : World} {K : PySem.W.Frag} {mg : Str → Option Value} {base : Heap} (T : Txt K mg)
theorem spv_tuple_of {H : Hp} {a : Addr} {xs : List V} {lo hi : Int} {b : Bool} (ha : H a = some (.tup xs)) (hb : (decide (lo ≤ xs.length) && decide ((xs.length : Int) ≤ hi)) = b) : SpV spTupleOf [.ref a, .int lo, .int hi] H (.bl b) :=
  fun H1 e Q q E => ⟨a, xs, lo, hi, rfl, e _ _ ha, fun H2 e2 => by rw [hb]; exact q H2 e2⟩
theorem spv_within {H : Hp} {i lo hi : Int} (hb : lo ≤ i ∧ i ≤ hi) : SpV spWithin [.int i, .int lo, .int hi] H (.bl true) :=
  fun H1 e Q q E => ⟨i, lo, hi, rfl, fun H2 e2 => by rw [decide_eq_true hb.1, decide_eq_true hb.2]; exact q H2 e2⟩
theorem ok_need_company (GT : FnOk P w K mg base CX0 1 T.tuple_of.f T.tuple_of.d ["value", "low", "high"] spTupleOf) (GW : FnOk P w K mg base CX0 2 T.within.f T.within.d ["value", "low", "high"] spWithin) :
    FnOk P w K mg base CX0 3 T.need_company.f T.need_company.d ["company"] spNeedCompany := by
  refine T.need_company.F.ok sc_need_company (fun vs H Q E h => ?_) (fun cdv A outer s H vs Q E hr h => ?_)
  · obtain ⟨c, n, ps, rfl, _⟩ := h
    rfl
  · obtain ⟨c, n, ps, rfl, hc, hv, k⟩ := h
    obtain ⟨tm, htm⟩ := T.most
    refine ⟨_, pss_cons (ps_if (PW.pt (pw_or (pt_not (pt_val (pe_call GT (hr.mono (by decide)) (by rfl) T.tuple_of.g T.tuple_of.F.kp T.tuple_of.b .nil pass0 (pa_cons (pv 0) (pa_cons pe_int (pa_cons pe_int pa_nil))))))
          (pw_or (pt_not (pt_val (pe_call GW hr (by rfl) T.within.g T.within.F.kp T.within.b .nil pass0 (pa_cons (pe_ix ix_tup (pv 0) pe_int (fun _ _ => rfl)) (pa_cons pe_int (pa_cons (pe_glob (v := .int 7) (by rfl) htm ⟨tm, rfl⟩) pa_nil))))))
          (pw_or1 (pt_not (pt_val (pe_call GT (hr.mono (by decide)) (by rfl) T.tuple_of.g T.tuple_of.F.kp T.tuple_of.b .nil pass0 (pa_cons (pe_ix ix_tup (pv 0) pe_int (fun _ _ => rfl)) (pa_cons pe_int (pa_cons pe_int pa_nil)))))))))) pss_never pss_nil)
      (pss_one (ps_for PassesOwn.never rfl (pi_enumT (by rfl) T.z_enumerate (pa_cons (pe_ix ix_tup (pv 0) pe_int (fun _ _ => rfl)) pa_nil)) (pg_tup rfl (pgs_cons (pg_name (i := 1) sc_need_company.nd rfl (.inl rfl)) (pgs_cons (pg_name (i := 2) sc_need_company.nd rfl (.inl rfl)) pgs_nil)))
        (pss_cons (ps_if (PW.pt (pw_or (pt_not (pt_val (pe_call GT (hr.mono (by decide)) (by rfl) T.tuple_of.g T.tuple_of.F.kp T.tuple_of.b .nil pass0 (pa_cons (pv 2) (pa_cons pe_int (pa_cons pe_int pa_nil))))))
            (pw_or1 (pt_not (pt_val (pe_callB (cr_all rfl) (by rfl) T.z_all (by decide +kernel) (pa_cons
              (pe_lc (own := [("letter", 3)]) (g := gName 3) (te := tCall spWithin [] E0 (tCons (tVar 3) (tCons (tC (.int 0)) (tCons (tOp (rI0 fun i j => .int (i - j)) (tOp (rIxT K) (tVar 0) (tC (.int 0))) (tC (.int 1))) tNil)))) rfl sc_need_company.nd (pi_tup (pv 2)) (blkOk_by (N := ["company", "index", "pair", "letter"]) (sc := defScope s_need_company) (by decide +kernel)) (fun _ _ _ _ _ => pg_name (i := 3) sc_need_company.nd rfl (.inl rfl))
                (fun _ _ _ _ _ => pts_nil) (fun _ _ _ _ _ => pe_call GW hr (by rfl) T.within.g T.within.F.kp T.within.b .nil pass0 (pa_cons (pv 3) (pa_cons pe_int (pa_cons (pe_op op_sub (pe_ix (r := rIxT K) ix_tup (pv 0) pe_int (fun _ _ => rfl)) pe_int) pa_nil))))) pa_nil))))))) pss_never pss_nil)
        (pss_one (ps_if (PW.pt (pw_or (pt_cmpR op_ge (pe_ix ix_tup (pv 2) pe_int (fun _ _ => rfl)) (pe_ix ix_tup (pv 2) pe_int (fun _ _ => rfl)) (nomark _))
            (pw_or1 (PW.pt (pw_and (pt_cmpR op_gt (pv 1) pe_int (nomark _)) (pw_and1 (pt_cmpR (op_leT (room0 hr)) (pv 2) (pe_ix ix_tup (pe_ix ix_tup (pv 0) pe_int (fun _ _ => rfl)) (pe_op op_sub (pv 1) pe_int) (fun _ _ => rfl)) (nomark _)))))))) pss_never pss_nil))))), ?_⟩
    obtain ⟨q, rs, c1, c2, c3, c4⟩ := hc.ex
    have hn := hv.hi
    have hlo := hv.lo
    have few := hv.few
    have ix0 : ∀ {σ : L2.St} {H1 : Hp}, Ex H H1 → σ[0]? = some (some (.ref c)) → Ev (tOp (rIxT K) (tVar 0) (tC (.int 0))) σ H1 (.int (n : Int)) := fun e h => ev_op (ev_var h) ev_c (rv_ixT (st_of (e _ _ c1)) (atI_nat (j := 0) rfl))
    have ix1 : ∀ {σ : L2.St} {H1 : Hp}, Ex H H1 → σ[0]? = some (some (.ref c)) → Ev (tOp (rIxT K) (tVar 0) (tC (.int 1))) σ H1 (.ref q) := fun e h => ev_op (ev_var h) ev_c (rv_ixT (st_of (e _ _ c1)) (atI_nat (j := 1) rfl))
    refine q_when (b := false) (et_or (a := false) (b := false) (et_not (a := true) (et_B (ev_call0 (ea_cons (ev_var rfl) (ea_cons ev_c (ea_cons ev_c ea_nil))) (spv_tuple_of c1 (by simp)))))
      fun _ => et_or (a := false) (b := false) (et_not (a := true) (et_B (ev_call0 (ea_cons (ix0 (Ex.refl H) rfl) (ea_cons ev_c (ea_cons ev_c ea_nil))) (spv_within ⟨by omega, by omega⟩))))
      fun _ => et_not (a := true) (et_B (ev_call0 (ea_cons (ix1 (Ex.refl H) rfl) (ea_cons ev_c (ea_cons ev_c ea_nil))) (spv_tuple_of c2 (by rw [List.length_map, c3, decide_eq_true (by omega), decide_eq_true (by omega)]; rfl))))) (fun z => nomatch z) fun _ H1 e1 => ?_
    refine s_forEnumT (xs := rs.map V.ref) (ea_cons (ix1 e1 rfl) ea_nil) (st_of (e1 _ _ c2)) (fun i σ' H' => Ex H H' ∧ ∃ o1 o2, σ' = [some (.ref c), o1, o2, none]) (fun H2 e2 => ⟨e1.trans e2, none, none, rfl⟩) (fun i σ' H' _ pv => st_of (pv.1 _ _ c2)) (fun i x T σ' H' hx pv hT => ?_) fun σ' H' pv => k H' pv.1
    obtain ⟨eH, o1, o2, hs⟩ := pv
    subst hs
    have hi : i < rs.length := by have := (List.getElem?_eq_some_iff.mp hx).1; simpa using this
    have hip : i < ps.length := by rw [← c3]; exact hi
    have hri : rs[i]? = some rs[i] := List.getElem?_eq_getElem hi
    have hpi : ps[i]? = some ps[i] := List.getElem?_eq_getElem hip
    rw [List.getElem?_map, hri] at hx
    have hx := Option.some.inj hx
    subst hx
    refine ⟨T, _, rfl, st_of upd_same, rfl, .int (i : Nat), [.ref rs[i]], rfl, .ref rs[i], [], rfl, rfl, ?_⟩
    have eT : Ex H (upd H' T (.tup [.int ((i : Nat) : Int), .ref rs[i]])) := eH.trans (Ex.new hT)
    generalize upd H' T (.tup [.int ((i : Nat) : Int), .ref rs[i]]) = HT at eT
    have ht := eT _ _ (c4 i _ _ hri hpi)
    have hpm : ps[i] ∈ ps := List.getElem_mem hip
    have up : 0 < i → lt2 ps[i - 1] ps[i] := fun h => List.pairwise_iff_getElem.mp hv.up (i - 1) i (by omega) hip (by omega)
    have hprev : 0 < i → ∃ r' : Addr, ∃ p' : Nat × Nat, rs[i - 1]? = some r' ∧ p' = ps[i - 1] ∧ HT r' = some (.tup [.int (p'.1 : Int), .int (p'.2 : Int)]) := fun h => by
      have h1 : i - 1 < rs.length := by omega
      have h2 : i - 1 < ps.length := by omega
      exact ⟨rs[i - 1], ps[i - 1], List.getElem?_eq_getElem h1, rfl, eT _ _ (c4 (i - 1) _ _ (List.getElem?_eq_getElem h1) (List.getElem?_eq_getElem h2))⟩
    generalize hpe : ps[i] = p at ht hpm up
    generalize hre : rs[i] = r at ht
    obtain ⟨b1, b2⟩ := hv.pr p hpm
    refine q_when (b := false) (et_or (a := false) (b := false) (et_not (a := true) (et_B (ev_call0 (ea_cons (ev_var rfl) (ea_cons ev_c (ea_cons ev_c ea_nil))) (spv_tuple_of ht (by simp)))))
      fun _ => et_not (a := true) (et_B (ev_is (ev_alls (zs := [p.1, p.2]) (f := fun _ => true) (el_lcF [p.1, p.2] (fun j => V.int ((j : Nat) : Int)) (fun _ => true) (fun _ => V.bl true) (evx_tup (ev_var rfl) (st_of ht)) (by simp) (fun x => rfl) (fun z H2 _ _ => et_yes) (fun z H2 hz _ e2 => ?_))) (by simp)))) (fun z => nomatch z) fun _ H2 e2 => ?_
    · have hz' : z ≤ n - 1 := by
        rcases List.mem_cons.mp hz with rfl | hz
        · omega
        · have := List.mem_singleton.mp hz
          omega
      exact ev_call0 (ea_cons (ev_var rfl) (ea_cons ev_c (ea_cons (ev_op (ix0 (eT.trans e2) rfl) ev_c rv_I0) ea_nil))) (spv_within ⟨by omega, by omega⟩)
    · have ht2 := e2 _ _ ht
      refine s_when (b := false) (et_or (a := false) (b := false) (et_test (ev_is (ev_op (ev_op (ev_var rfl) ev_c (rv_ixT (st_of ht2) (atI_nat (j := 0) rfl))) (ev_op (ev_var rfl) ev_c (rv_ixT (st_of ht2) (atI_nat (j := 1) rfl))) rv_I0) (by rw [decide_eq_false (by omega)])))
        fun _ => et_is (et_and (a := decide (0 < i)) (b := false) (et_test (ev_is (ev_op (ev_var rfl) ev_c rv_I0) (by congr 1; exact decide_eq_decide.mpr (by omega)))) fun h => ?_) (by simp)) (fun z => nomatch z) fun _ H3 e3 => ⟨(eT.trans e2).trans e3, _, _, rfl⟩
      have h0 := of_decide_eq_true h
      obtain ⟨r', p', g1, g2, g3⟩ := hprev h0
      subst g2
      refine et_test (ev_op (y := .ref r') (ev_var rfl) (ev_op (ix1 (eT.trans e2) rfl) (ev_op (ev_var rfl) ev_c rv_I0) (rv_ixT (st_of ((eT.trans e2) _ _ c2)) (by rw [show ((i : Nat) : Int) - 1 = ((i - 1 : Nat) : Int) by omega]; exact atI_nat (by rw [List.getElem?_map, g1]; rfl)))) fun H4 e4 Q4 q4 => ?_)
      refine ⟨r, r', [(p.1 : Int), (p.2 : Int)], [(ps[i - 1].1 : Int), (ps[i - 1].2 : Int)], rfl, rfl, st_of ((e2.trans e4) _ _ ht), st_of ((e2.trans e4) _ _ g3), ?_⟩
      rw [le_pairs (up h0)]
      exact q4 H4 (Ex.refl _)
end
end Ow

namespace Ow
open PySem PySem.Spec PyProof.Rows L2 Evl
/-! ### sets of texts -/
def keyT (e : Int × Value) : Str := match e.2 with | .str x _ => x | _ => Str.empty
def GoodT (w : World) (e : Int × Value) : Prop := ∃ x tk, e.2 = Value.str x tk ∧ e.1 = hashStr w x
/-- the set of texts at a, its members L in no order -/
structure TxR (w : World) (h : Heap) (a : Addr) (L : List Str) : Prop where
  nd : L.Nodup
  ex : ∃ o es ep t, h.get? a = some o ∧ o.ExactSet ∧ o.data = .set es ep t ∧ (∀ e ∈ es.toList, GoodT w e) ∧ (es.toList.map keyT).Perm L ∧ L.length < scanBound ∧ t.fits es.size = true ∧ Ris t.place.toList ∧ (w.params.followText "set-order" = true ∨ t.led = true)
section
variable {P : Program} {w : World} {h h' : Heap} {a : Addr} {L : List Str}
theorem TxR.at (R : TxR w h a L) (k : ∀ o, h.get? a = some o → h'.get? a = some o) : TxR w h' a L := by
  obtain ⟨nd, o, es, ep, t, ho, r⟩ := R
  exact ⟨nd, o, es, ep, t, k o ho, r⟩
theorem goodT_elems {l : List (Int × Value)} (g : ∀ e ∈ l, GoodT w e) : ElemsOf (PySem.strKind P w) l := fun e he => by
  obtain ⟨x, tk, q1, q2⟩ := g e he
  rw [q1]
  exact ⟨⟨x, PySem.strKind_is P w x tk, q2⟩, rfl⟩
theorem goodT_is {e : Int × Value} (g : GoodT w e) (x : Str) : (PySem.strKind P w).is x e.2 = true ↔ keyT e = x := by
  obtain ⟨y, tk, q, _⟩ := g
  unfold keyT
  rw [q]
  show Value.isStrOf x (.str y tk) = true ↔ y = x
  simp only [Value.isStrOf]
  rw [beq_iff_eq]
theorem goodT_mem {l : List (Int × Value)} (g : ∀ e ∈ l, GoodT w e) (x : Str) : x ∈ l.map keyT ↔ ∃ e ∈ l, (PySem.strKind P w).is x e.2 = true := by
  rw [List.mem_map]
  exact ⟨fun ⟨e, he, q⟩ => ⟨e, he, (goodT_is (g e he) x).mpr q⟩, fun ⟨e, he, q⟩ => ⟨e, he, (goodT_is (g e he) x).mp q⟩⟩
/-- L with x -/
def addT (x : Str) (L : List Str) : List Str := if x ∈ L then L else x :: L
end
section
variable {P : Program} {w : World} {A : Around} {E : Value → Shared → Prop} {s : Shared} {a : Addr} {L L' : List Str}
/-- what is stored behind a new member -/
theorem tx_tail {g : Bool → Sem Unit} (hg : ∀ (b : Bool) (s' : Shared) (Q' : Unit → Shared → Prop), Q' () s' → wpAny (model P w) A (g b) Q' E s') {o : Obj} {es : Array (Int × Value)} {ep : Nat} {t : SetTable}
    (ho : s.heap.get? a = some o) (hex : o.ExactSet) (hd : o.data = .set es ep t) {fs : Array (Int × Value)} {t2 : SetTable} (nd : L'.Nodup) (gf : ∀ e ∈ fs.toList, GoodT w e) (pf : (fs.toList.map keyT).Perm L') (bf : L'.length < scanBound)
    (ff : t2.fits fs.size = true) (rf : Ris t2.place.toList) (lf : w.params.followText "set-order" = true ∨ t2.led = true) {wd : Bool} {R : Option Bool → Shared → Prop} (hR : ∀ h', Heap.SameBut a s.heap h' → TxR w h' a L' → R (some true) { s with heap := h' }) :
    wpAny (model P w) A (do
        storeSet a fs t2
        if (!wd && t2.tooFull) = true then do
            g (relayAll t2 fs (SetTable.grown fs.size)).2.2
            storeSet a (relayAll t2 fs (SetTable.grown fs.size)).1 (relayAll t2 fs (SetTable.grown fs.size)).2.1
            pure (some true)
          else pure (some true)) R E s := by
  have sf : fs.size < scanBound := by
    have := pf.length_eq
    rw [List.length_map, Array.length_toList] at this
    rw [this]
    exact bf
  refine wpAny_bind (wpAny_storeSet_of ho hd ?_ (fits_of_scanBound sf))
  have o1 := store_at (es' := fs) (t' := t2) ho hd
  have k1 := Heap.SameBut.update s.heap a (Obj.putSet fs t2)
  by_cases hfull : (!wd && t2.tooFull) = true
  · rw [if_pos hfull]
    have pm := relayAll_perm t2 fs (SetTable.grown fs.size)
    have f3 := relayAll_fits t2 fs (SetTable.grown fs.size)
    have r3 := relayAll_ris t2 fs (SetTable.grown fs.size)
    have l3 := relayAll_led t2 fs (SetTable.grown fs.size)
    revert pm f3 r3 l3
    rcases relayAll t2 fs (SetTable.grown fs.size) with ⟨gs, t3, gave⟩
    intro pm f3 r3 l3
    dsimp only at pm f3 r3 l3 ⊢
    have sg : gs.size < scanBound := by
      have := pm.length_eq
      rw [Array.length_toList, Array.length_toList] at this
      rw [this]
      exact sf
    refine wpAny_bind (hg _ _ _ (wpAny_bind (wpAny_storeSet_of o1 rfl ?_ (fits_of_scanBound sg))))
    have o2 := store_at (es' := gs) (t' := t3) o1 rfl
    exact wpAny_pure (hR _ (k1.trans (Heap.SameBut.update _ a _)) ⟨nd, _, gs, _, t3, o2, hex, rfl, fun e he => gf e (pm.mem_iff.mp he), (pm.map keyT).trans pf, bf, f3, r3, lf.imp id fun z => l3.trans z⟩)
  · rw [if_neg hfull]
    exact wpAny_pure (hR _ k1 ⟨nd, _, fs, _, t2, o1, hex, rfl, gf, pf, bf, ff, rf, lf⟩)
theorem tx_add {x : Str} {tk : Tok} {Q : Bool → Shared → Prop} (R : TxR w s.heap a L) (room : L.length + 1 < scanBound) (hQ : ∀ b h', Heap.SameBut a s.heap h' → TxR w h' a (addT x L) → Q b { s with heap := h' }) :
    wpAny (model P w) A (setAddHashed a (.str x tk) ((PySem.strKind P w).hash x)) Q E s := by
  obtain ⟨nd, o, es, ep, t, ho, hex, hd, g, pl, hb, hf, hr, hl⟩ := R
  have hse : es.size = L.length := by
    have := pl.length_eq
    rwa [List.length_map, Array.length_toList] at this
  have kx : (PySem.strKind P w).is x (.str x tk) = true := PySem.strKind_is P w x tk
  have sx : (Value.str x tk).scannable = true := rfl
  have hel : ElemsOf (PySem.strKind P w) es.toList := goodT_elems g
  unfold setAddHashed setAddHashedIn
  refine wpAny_holding (wpAny_bind (wpAny_setState_of ho hd hf ?_))
  dsimp only
  rw [byScan_of sx (by rw [hse]; exact hb) hel]
  simp only [↓reduceIte]
  unfold setAddByScan
  refine wpAny_bind (wpAny_bind (wpAny_rule (wpAny_bind (wpAny_setScan_of kx ho hd hf hel ?_))))
  generalize hfi : List.findIdx? (fun e => (PySem.strKind P w).is x e.2) es.toList = fi
  cases fi with
  | none =>
    dsimp only
    have nx : x ∉ L := fun z => by
      obtain ⟨e, he, q⟩ := (goodT_mem (P := P) g x).mp (pl.mem_iff.mpr z)
      have c := List.findIdx?_eq_none_iff.mp hfi e he
      rw [q] at c
      cases c
    have eL : addT x L = x :: L := if_neg nx
    rw [eL] at hQ
    have pm := layNew_perm t es ((PySem.strKind P w).hash x) (.str x tk)
    have f1 := layNew_fits t es ((PySem.strKind P w).hash x) (.str x tk)
    have r1 := layNew_ris t es ((PySem.strKind P w).hash x) (.str x tk) hr
    have l1 := layNew_led t es ((PySem.strKind P w).hash x) (.str x tk)
    revert pm f1 r1 l1
    rcases layNew t es ((PySem.strKind P w).hash x) (.str x tk) with ⟨fs, t1, wd, gave⟩
    intro pm f1 r1 l1
    dsimp only at pm f1 r1 l1 ⊢
    rw [Array.toList_push] at pm
    have pc := pm.trans (List.perm_append_singleton _ _)
    have gf : ∀ e ∈ fs.toList, GoodT w e := fun e he => (List.mem_cons.mp (pc.mem_iff.mp he)).elim (fun z => z ▸ ⟨x, tk, rfl, rfl⟩) (g e)
    have pf : (fs.toList.map keyT).Perm (x :: L) := (pc.map keyT).trans (List.Perm.cons x pl)
    have nf : (x :: L).Nodup := List.nodup_cons.mpr ⟨nx, nd⟩
    have lf : w.params.followText "set-order" = true ∨ t1.led = true := hl.imp id fun z => l1.trans z
    have fin : ∀ h', Heap.SameBut a s.heap h' → TxR w h' a (x :: L) → Q true { s with heap := h' } := fun h' => hQ true h'
    have rl : ∀ (b : Bool) {s' : Shared} {Q' : Unit → Shared → Prop}, Q' () s' → wpAny (model P w) A (match b with | true => rule "set.scan.the-table-gave-way" | false => pure ()) Q' E s' := fun b s' Q' q => by
      rcases b with _ | _
      · exact wpAny_pure q
      · exact wpAny_rule q
    refine wpAny_bind (rl _ ?_)
    split
    · refine wpAny_bind ?_
      rw [hashByValue_scannable 8 sx]
      refine wpAny_pure (tx_tail (fun b s' Q' q => by rcases b with _ | _ <;> first | exact wpAny_pure q | exact wpAny_rule q) ho hex hd nf gf pf room ?_ ?_ ?_ fun h' sb r => wpAny_pure (fin h' sb r))
      · first | (split <;> first | exact f1 | exact SetTable.fits_plain_off f1) | exact f1
      · first | (split <;> exact r1) | exact r1
      · first | (split <;> exact lf) | exact lf
    · refine wpAny_bind (wpAny_pure ?_)
      simp only [↓reduceIte]
      exact tx_tail (fun b s' Q' q => by rcases b with _ | _ <;> first | exact wpAny_pure q | exact wpAny_rule q) ho hex hd nf gf pf room f1 r1 lf fun h' sb r => wpAny_pure (fin h' sb r)
  | some j =>
    dsimp only
    obtain ⟨hj, pj, _⟩ := List.findIdx?_eq_some_iff_getElem.mp hfi
    have mx : x ∈ L := pl.mem_iff.mp ((goodT_mem (P := P) g x).mpr ⟨es.toList[j], List.getElem_mem hj, pj⟩)
    have eL : addT x L = L := if_pos mx
    rw [eL] at hQ
    exact wpAny_pure (wpAny_pure (hQ _ s.heap (Heap.SameBut.refl a s.heap) ⟨nd, o, es, ep, t, ho, hex, hd, g, pl, hb, hf, hr, hl⟩))
end
end Ow

namespace Ow
open PySem PySem.Spec PyProof.Rows L2 Evl
def allT (xs : List Str) : List Str := xs.foldl (fun L x => addT x L) []
theorem mem_addT {x y : Str} {L : List Str} : y ∈ addT x L ↔ y = x ∨ y ∈ L := by
  unfold addT
  split
  · rename_i h
    exact ⟨.inr, fun z => z.elim (fun e => e ▸ h) id⟩
  · exact List.mem_cons
theorem len_addT {x : Str} {L : List Str} : (addT x L).length ≤ L.length + 1 := by
  unfold addT
  split
  · omega
  · exact Nat.le_refl _
theorem allT_snoc (xs : List Str) (x : Str) : allT (xs ++ [x]) = addT x (allT xs) := by unfold allT; rw [List.foldl_append]; rfl
theorem fold_mem : ∀ (xs L : List Str) (y : Str), y ∈ xs.foldl (fun L x => addT x L) L ↔ y ∈ xs ∨ y ∈ L
  | [], L, y => by simp
  | x :: r, L, y => by
    rw [List.foldl_cons, fold_mem r, mem_addT, List.mem_cons]
    constructor
    · rintro (h | h | h)
      · exact .inl (.inr h)
      · exact .inl (.inl h)
      · exact .inr h
    · rintro ((h | h) | h)
      · exact .inr (.inl h)
      · exact .inl h
      · exact .inr (.inr h)
theorem fold_len : ∀ (xs L : List Str), (xs.foldl (fun L x => addT x L) L).length ≤ L.length + xs.length
  | [], L => Nat.le_refl _
  | x :: r, L => by
    rw [List.foldl_cons, List.length_cons]
    have := fold_len r (addT x L)
    have := len_addT (x := x) (L := L)
    omega
theorem mem_allT {xs : List Str} {y : Str} : y ∈ allT xs ↔ y ∈ xs := by
  unfold allT
  rw [fold_mem]
  simp
theorem allT_len (xs : List Str) : (allT xs).length ≤ xs.length := by
  have := fold_len xs []
  unfold allT
  simpa using this
/-- the empty set that a call makes -/
def set0 (w : World) : Obj := { cls := .type "set", dict := none, data := .set #[] 0 (.fresh 0 0 (!w.params.followText "set-order")) }
theorem tx_new {w : World} {h : Heap} {a : Addr} (ho : h.get? a = some (set0 w)) : TxR w h a [] := by
  refine ⟨List.nodup_nil, set0 w, #[], 0, _, ho, ⟨rfl, rfl, rfl⟩, rfl, fun e he => by simp at he, by simp, by decide, rfl, List.Pairwise.nil, ?_⟩
  show _ ∨ (!w.params.followText "set-order") = true
  rcases h : w.params.followText "set-order" with _ | _
  · exact .inr rfl
  · exact .inl rfl
section
variable {P : Program} {w : World} {A : Around} {E : Value → Shared → Prop} {s : Shared}
theorem tx_update {I : Addr} {fp wr : List Addr} {G : Array GenState → Array GenState → Prop} {n : Nat} {Pv : Nat → Value → Prop} {St : Nat → Shared → Prop} {R : Result → Shared → Prop} (W : WalksS P w A.in1 I fp wr G n Pv St) (S : Addr) (nS : S ∉ fp)
    (xs : List Str) (hn : n = xs.length) (hb : xs.length + 1 < scanBound) (hval : ∀ i v, Pv i v → ∃ x t, xs[i]? = some x ∧ v = .str x t) (hR : ∀ s', Moved (S :: wr) G s s' → TxR w s'.heap S (allT xs) → R (.ok (.ret .none)) s') :
    ∀ (k i : Nat) (s1 : Shared), n - i = k → i ≤ n → St i s1 → TxR w s1.heap S (allT (xs.take i)) → Moved (S :: wr) G s s1 → codeAny (model P w) A (.builtin "set.update.loop" ⟨[.ref S, .ref I], []⟩) R s1 := by
  have nw : S ∉ wr := fun h => nS (W.sub _ h)
  have up : ∀ b ∈ wr, b ∈ S :: wr := fun b hb => List.mem_cons_of_mem _ hb
  intro k
  induction k with
  | zero =>
    intro i s1 hk hi hst hS hm
    have e : i = n := by omega
    subst e
    refine codeAny_builtin PyProof.Rows.F.entry_set_update_loop ?_
    rw [Around.under_plainId PyProof.Rows.F.plain_set_update_loop _]
    show wpAny _ A.in1 (pyNext (.ref I) >>= _) _ _ s1
    refine wpAny_bind (W.done s1 _ _ hst fun s2 hm2 => ?_)
    rw [List.take_of_length_le (by omega)] at hS
    exact wpAny_pure (hR s2 (Moved.trans W.gtrans hm (hm2.mono up)) (hS.at fun o e => hm2.heap S o nw e))
  | succ k ih =>
    intro i s1 hk hi hst hS hm
    have hlt : i < n := by omega
    refine codeAny_builtin PyProof.Rows.F.entry_set_update_loop ?_
    rw [Around.under_plainId PyProof.Rows.F.plain_set_update_loop _]
    show wpAny _ A.in1 (pyNext (.ref I) >>= _) _ _ s1
    refine wpAny_bind (W.item i s1 _ _ hlt hst fun v s2 hP hst2 hm2 => ?_)
    obtain ⟨x, t, hx, rfl⟩ := hval i v hP
    have tk : xs.take (i + 1) = xs.take i ++ [x] := by rw [List.take_add_one, hx]; rfl
    have hS2 : TxR w s2.heap S (allT (xs.take i)) := hS.at fun o e => hm2.heap S o nw e
    have room : (allT (xs.take i)).length + 1 < scanBound := by
      have := allT_len (xs.take i)
      rw [List.length_take] at this
      omega
    show wpAny _ A.in1 (holding [Value.str x t] (setAdd S (.str x t)) >>= _) _ _ s2
    refine wpAny_bind (wpAny_holding ?_)
    unfold setAdd
    refine wpAny_holding (wpAny_bind ((PySem.strKind P w).pyHash (k := x) (PySem.strKind_is _ _ _ _) ?_))
    refine tx_add (s := { s2 with toks := s2.toks + 1 }) hS2 room fun b h3 sb r3 => ?_
    rw [← allT_snoc, ← tk] at r3
    have nb : ∀ b o, b ∉ S :: wr → s2.heap.get? b = some o → h3.get? b = some o := fun b o hb e => by
      rw [sb.2 b (fun z : b = S => hb (z ▸ List.mem_cons_self))]
      exact e
    refine wpAny_pure ⟨plainId_quiet PyProof.Rows.F.plain_set_update_loop _, ih (i + 1) _ (by omega) hlt (W.frame _ s2 _ _ hst2 (Nat.le_succ _) fun b hb o e => ?_) r3 (Moved.trans W.gtrans hm ((hm2.mono up).then_heap (Nat.le_succ _) nb))⟩
    rw [sb.2 b (fun z : b = S => nS (z ▸ hb))]
    exact e
end
end Ow

namespace Ow
open PySem PySem.Spec PyProof.Rows L2 Evl
section
variable {P : Program} {w : World} {A : Around} {E : Value → Shared → Prop} {s : Shared}
/-- set(a list of texts) -/
theorem tx_call {l : Addr} {items : Array Value} {xs : List Str} {Q : Value → Shared → Prop} (hh : A.handled = none) (hl : s.heap.IsList l items) (hi : StrsAre items.toList xs) (hb : xs.length + 1 < scanBound)
    (hQ : ∀ (h' : Heap) (tk : Nat), TxR w h' s.heap.objs.size (allT xs) → (∀ b o, s.heap.get? b = some o → h'.get? b = some o) → Q (.ref s.heap.objs.size) { s with heap := h', toks := tk }) : wpAny (model P w) A (call (.type "set") [.ref l]) Q E s := by
  have size : items.size = xs.length := (Array.length_toList (xs := items)).symm.trans (StrsAre.len_eq hi)
  obtain ⟨_, _, hmro⟩ := PySem.F.called_set.mro
  have made := PySem.F.called_set.made
  have sub := PySem.F.called_set.sub
  refine wpAny_call (codeAny_of_tree ?_)
  show wpAny _ _ (callAny (.type "set") _) _ _ _
  refine wpAny_pure ⟨Code.quiet_builtin _ (by decide +kernel), codeAny_builtin PySem.F.entry_type_call ?_⟩
  rw [Around.under_plain (weight_type_call_type "set" [.ref l] []) rfl]
  have nt := PySem.F.called_set.notType
  have cc := PySem.F.called_set.canCreate
  have tc := PySem.F.typeCall_set_1 (.ref l)
  repeat (any_goals (first | assumption | wp_step))
  refine codeAny_mono (code_set_led1 (.ref l) (E := E) (Q₁ := fun obj s1 => obj = .ref s.heap.objs.size ∧ s1 = { s with heap := s.heap.push (set0 w) }) ⟨rfl, rfl⟩) fun r s1 hr => ?_
  rcases r with e | fl
  · exact hr
  rcases fl with _ | _ | _ | obj
  · exact hr.elim
  · exact hr.elim
  · exact hr.elim
  · obtain ⟨rfl, rfl⟩ := hr
    have at0 : (s.heap.push (set0 w)).get? s.heap.objs.size = some (set0 w) := Heap.get?_push_size _ rfl
    have ty0 : Shared.TypeIs { s with heap := s.heap.push (set0 w) } (.ref s.heap.objs.size) "set" := ⟨_, at0, rfl⟩
    have il := PySem.F.called_set.init.lookup
    have ib := PySem.F.called_set.init.bind (.ref s.heap.objs.size)
    repeat (any_goals (first | assumption | wp_step))
    refine codeAny_mono (codeAny_call_builtin (R := wants (fun r s2 => r = .none ∧ ∃ h' tk, s2 = { s with heap := h', toks := tk } ∧ TxR w h' s.heap.objs.size (allT xs) ∧ ∀ b o, s.heap.get? b = some o → h'.get? b = some o) E) PySem.F.called_set.init.plain PySem.F.entry_set_init (check_set_init_1 ty0 ?_)) fun r2 s2 hr2 => ?_
    · obtain ⟨⟨c0, d0, da, sl⟩, at1, hcl, nl, hdl⟩ := hl
      have hcl : c0 = .type "list" := hcl
      have hdl : da = .seq items nl := hdl
      subst hcl hdl
      have at2 : (s.heap.push (set0 w)).get? l = some { cls := .type "list", dict := d0, data := .seq items nl, slots := sl } := Heap.get?_push_of_some _ at1
      have s1 := PySem.F.sub_list_set
      have s2 := PySem.F.sub_list_frozenset
      have ne : (Value.type "list" == Value.type "dict") = false := by decide
      have isl : (s.heap.push (set0 w)).IsList l items := ⟨_, at2, rfl, nl, rfl⟩
      unfold set0 at at0 at2 ty0 isl ⊢
      unfold Builtin.«set.__init__» noKeywords Builtin.Frozenset.updateFrom
      generalize hPI : pyIter = PI
      wp_walk
      subst hPI
      refine wpAny_pyIter_list (s := { s with heap := s.heap.push (set0 w) }) isl ?_
      refine wpAny_bind (wpAny_runValue ?_)
      have lt : l < s.heap.objs.size := Heap.lt_size at1
      have h3 : A.in1.in1.in1.handled = none := hh
      have z1 : (s.heap.push (set0 w)).objs.size = s.heap.objs.size + 1 := Heap.size_push ..
      have lI : l ≠ (s.heap.push (set0 w)).objs.size := by rw [z1]; exact Nat.ne_of_lt (Nat.lt_succ_of_lt lt)
      have nS : s.heap.objs.size ∉ [(s.heap.push (set0 w)).objs.size, l] := fun h => by
        rcases List.mem_cons.mp h with h | h
        · rw [z1] at h
          exact Nat.ne_of_lt (Nat.lt_succ_self _) h
        · exact Nat.ne_of_gt lt (List.mem_singleton.mp h)
      have hval : ∀ (i : Nat) (v : Value), items[i]? = some v → ∃ x t, xs[i]? = some x ∧ v = .str x t := fun i v hv => by
        have hlt : i < xs.length := by rw [← size]; exact (Array.getElem?_eq_some_iff.mp hv).1
        obtain ⟨t, e⟩ := SS.strs_at hi i v (by rw [Array.getElem?_toList]; exact hv)
        refine ⟨xs[i], t, List.getElem?_eq_getElem hlt, ?_⟩
        rw [e, List.getD_eq_getElem?_getD, List.getElem?_eq_getElem hlt]
        rfl
      refine tx_update (s := { s with heap := (s.heap.push (set0 w)).push { cls := .type "list_iterator", data := .fields #[.ref l, .int 0 0] } }) ((Walks.list h3 _ l lI items).toS) s.heap.objs.size nS xs size hb hval ?_ (items.size - 0) 0 _ (by omega) (Nat.zero_le _) ⟨⟨_, Heap.get?_push_size _ rfl, rfl, rfl⟩, isl.push _⟩ (tx_new (Heap.get?_push_of_some _ at0)) ?_
      · intro s' hm hS
        obtain ⟨h', g', d', tk', os'⟩ := s'
        have e1 : g' = s.gens := hm.gens
        have e2 : d' = s.drawn := hm.drawn
        have e3 : os' = s.os := hm.os
        subst e1 e2 e3
        show wpAny _ _ _ _ _ _
        refine wpAny_pure ?_
        show wpAny _ _ (ret Value.none) _ _ _
        refine wpAny_pure ⟨rfl, h', tk', rfl, hS, fun b o e => ?_⟩
        have b0 : b < s.heap.objs.size := Heap.lt_size e
        refine hm.heap b o (fun h => ?_) (Heap.get?_push_of_some _ (Heap.get?_push_of_some _ e))
        rcases List.mem_cons.mp h with h | h
        · exact Nat.ne_of_lt b0 h
        · rw [List.mem_singleton.mp h, z1] at b0
          exact Nat.lt_irrefl _ (Nat.lt_of_succ_lt b0)
      · exact Moved.refl (Walks.list (prog := P) (w := w) h3 _ l lI items).toS.grefl
    · rcases r2 with e | fl2
      · exact hr2
      rcases fl2 with _ | _ | _ | r
      · exact hr2.elim
      · exact hr2.elim
      · exact hr2.elim
      · obtain ⟨rfl, h', tk, rfl, hS, hk⟩ := hr2
        repeat (any_goals (first | assumption | wp_step))
        exact hQ _ _ hS hk
end
end Ow

namespace Ow
open PySem PySem.Spec PyProof.Rows L2 Evl
/-- the set of texts, tracked -/
def TxO (w : World) (a : Addr) (L : List Str) : HO := .ext fun h => TxR w h a L
section
variable {P : Program} {w : World} {A : Around} {E : Value → Shared → Prop} {s : Shared}
theorem txs_of : ∀ (l : List Value), (∀ v ∈ l, ∃ x tk, v = Value.str x tk) → ∃ ss, StrsAre l ss ∧ ss = l.map (fun v => keyT (0, v))
  | [], _ => ⟨[], .nil, rfl⟩
  | v :: l, h => by
    obtain ⟨x, tk, rfl⟩ := h v List.mem_cons_self
    obtain ⟨ss, a, b⟩ := txs_of l fun u hu => h u (List.mem_cons_of_mem _ hu)
    exact ⟨x :: ss, .cons x tk a, by rw [b]; rfl⟩
/-- sorted(a set of texts) -/
theorem tx_sorted {a : Addr} {L : List Str} {Q : Value → Shared → Prop} (R : TxR w s.heap a L) (hh : A.handled = none) (h64 : L.length < 64)
    (hQ : ∀ s' p (out : Array Value) (c : Nat) (ys : List Str), (∀ b o, s.heap.get? b = some o → s'.heap.get? b = some o) → s'.gens = s.gens → s'.os = s.os → s.heap.objs.size ≤ p → s'.heap.get? p = some (seqObj "list" out c) → StrsAre out.toList ys → ys.Perm L → Q (.ref p) s') :
    wpAny (model P w) A (call (.builtin "sorted") [.ref a]) Q E s := by
  obtain ⟨nd, o, es, ep, t, ho, hex, hd, g, pl, hb, hf, hr, hl⟩ := R
  have hse : es.size = L.length := by
    have := pl.length_eq
    rwa [List.length_map, Array.length_toList] at this
  refine Calls.call_function_entry PyProof.Rows.kind_sorted PyProof.Rows.plain_sorted PyProof.Rows.entry_sorted (PyProof.Rows.args_sorted1 _) ?_
  unfold Builtin.«sorted»
  refine wpAny_bind (m := checkCount "sorted" 1 1 _) (wpAny_pure (wpAny_bind (collect_set (A := A.in1) hh ⟨o, ho, hex.1, hd⟩ hf (by rw [hse]; exact hb) hr hl fun s1 vs k1 hz g1 o1 pm => ?_)))
  have nl : vs.length = L.length := by rw [pm.length_eq, List.length_map, Array.length_toList]; exact hse
  obtain ⟨ss, hS, es2⟩ := txs_of vs fun v hv => by
    obtain ⟨e, he, q⟩ := List.mem_map.mp (pm.mem_iff.mp hv)
    obtain ⟨x, tk, h1, _⟩ := g e he
    exact ⟨x, tk, q.symm.trans h1⟩
  have pss : ss.Perm L := by
    have q := pm.map (fun v => keyT (0, v))
    rw [List.map_map] at q
    rw [es2]
    exact q.trans pl
  refine wpAny_bind (wpAny_newList ?_ (by rw [nl, sizeLine_eq]; omega))
  have at1 : (s1.heap.push (seqObj "list" vs.toArray 0)).get? s1.heap.objs.size = some (seqObj "list" vs.toArray 0) := Heap.get?_push_size _ rfl
  refine wpAny_bind (wpAny_holding (wpAny_call_entry PyProof.Rows.slot_list_sort ⟨_, at1, rfl⟩ PyProof.Rows.entry_list_sort (list_sort_treeK strKind_oneLt at1 hS.keysOf (fun v1 v2 rest e => keyKind_strs (by rw [← e]; exact hS)) (by rw [nl]; exact h64) fun st hp hs => ⟨_, rfl, ?_⟩) (PyProof.Rows.args_list_sort _)))
  obtain ⟨ys, y1, y2, y3⟩ := sorted_out_str hS hp hs
  obtain ⟨c, hc⟩ := PyProof.Rows.sortedHeap_at (vs := vs) (out := (arrOf st).map (·.2)) at1
  refine wpAny_pure ⟨_, rfl, hQ _ s1.heap.objs.size _ c ys (fun b u e => ?_) g1 o1 hz hc y1 (y2.trans pss)⟩
  have q := k1 b u e
  have lt := Heap.lt_size q
  show (PyProof.Rows.sortedHeap (s1.heap.push (seqObj "list" vs.toArray 0)) s1.heap.objs.size vs ((arrOf st).map (·.2))).get? b = some u
  rw [PyProof.Rows.sortedHeap_old (Nat.ne_of_lt lt) (by rw [size_push']; exact Nat.lt_succ_of_lt lt)]
  exact Heap.get?_push_of_some _ q
end
section
variable {X : Cx}
def rSetT (K : PySem.W.Frag) (w : World) : List V → Hp → VK → Prop := fun vs H Q => ∃ (l : Addr) (xs : List Str), vs = [V.ref l] ∧ SqL K H l (xs.map V.str) ∧ xs.length < 1000 ∧ ∀ p, H p = none → Q (.ref p) (upd H p (TxO w p (allT xs)))
theorem txO_new {w : World} {P : Program} {H : Hp} {h : Heap} {a : Addr} {L : List Str} (R : TxR w h a L) : ObjOk P w H h a (TxO w a L) := by
  have ⟨_, o, _, _, _, ho, _⟩ := R
  exact ⟨R, ⟨o, ho⟩, fun h1 h2 p k => TxR.at p k⟩
theorem cr_setT (hc : X.calm = true) : CallR X (.type "set") (rSetT X.K X.w) := by
  intro pins s σ H vs us Q I r h
  obtain ⟨l, xs, e, hs, hz, q⟩ := h
  subst e
  obtain ⟨its, rv, hl, _⟩ := I.list hs
  rw [Vals.ref1 r]
  refine tx_call (xs := xs) (I.ok.hd hc) hl.isList rv.strs (by unfold scanBound; omega) fun h' tk R k => ?_
  exact ⟨.ref _, upd H s.heap.objs.size (TxO X.w s.heap.objs.size (allT xs)), I.laid (t' := tk) k (Nat.le_refl _) (txO_new R), rfl, q _ (I.hok.fresh (Nat.le_refl _))⟩
def rSortSetT (w : World) : List V → Hp → VK → Prop := fun vs H Q => ∃ (a : Addr) (L : List Str), vs = [V.ref a] ∧ H a = some (TxO w a L) ∧ L.length < 64 ∧ ∀ (ys : List Str) (p : Addr), ys.Perm L → H p = none → Q (.ref p) (upd H p (.lst (ys.map V.str)))
theorem cr_sortSetT (hc : X.calm = true) : CallR X (.builtin "sorted") (rSortSetT X.w) := by
  intro pins s σ H vs us Q I r h
  obtain ⟨a, L, e, ha, h64, q⟩ := h
  subst e
  have R : TxR X.w s.heap a L := (I.hok a _ ha).1
  rw [Vals.ref1 r]
  refine tx_sorted R (I.ok.hd hc) h64 fun s' p out c ys k g o hp hg hi pm => ?_
  have len : (ys.map V.str).length ≤ sizeLine := by rw [List.length_map, pm.length_eq, sizeLine_eq]; omega
  have hn : H p = none := I.hok.fresh hp
  obtain ⟨h', g', d', t', o'⟩ := s'
  have e1 : o' = s.os := o
  have e2 : g' = s.gens := g
  subst e1 e2
  have J : Inv X pins σ (upd H p (.lst (ys.map V.str))) { s with heap := h', drawn := d', toks := t' } :=
    I.call (ch := []) (g' := s.gens) (d' := d') (t' := t') (Un.laid k hp hn) (I.hok.laid k hp ⟨len, out.toList, c, vals_of_strs hi, hg⟩) I.bare (fun _ z => nomatch z)
  exact ⟨.ref p, _, J, rfl, q ys p pm hn⟩
end
end Ow

namespace Ow
open PySem PySem.Spec PyProof.Rows L2 Evl
/-- (size, kind) -/
def gK (k : List Nat) : List V := [.int (k.length : Int), .str (tx k)]
def kD (k : List Nat) : PyData := .tuple [.int (k.length : Int), .str (tx k)]
theorem each_refs {α : Type} : ∀ (bs : List (Addr × α)), PySem.W.EachIs (fun (v : Value) (b : Addr × α) => v = .ref b.1) (bs.map fun b => Value.ref b.1) bs
  | [] => .nil
  | b :: bs => .cons rfl (each_refs bs)
theorem refs_each {α : Type} : ∀ {vs : List Value} {bs : List (Addr × α)}, PySem.W.EachIs (fun (v : Value) (b : Addr × α) => v = .ref b.1) vs bs → vs = bs.map fun b => Value.ref b.1
  | _, _, .nil => rfl
  | _, _, .cons h r => by rw [h, refs_each r]; rfl
theorem vals_refs {α : Type} : ∀ {us : List Value} {bs : List (Addr × α)}, Vals (bs.map fun b => V.ref b.1) us → us = bs.map fun b => Value.ref b.1
  | _, [], h => by cases h; rfl
  | _, b :: bs, h => by
    rw [List.map_cons] at h
    cases h with
    | cons r t =>
      cases r
      rw [vals_refs t]
      rfl
theorem refs_vals {α : Type} : ∀ (bs : List (Addr × α)), Vals (bs.map fun b => V.ref b.1) (bs.map fun b => Value.ref b.1)
  | [] => .nil
  | b :: bs => .cons rfl (refs_vals bs)
theorem each_of {α β : Type} {R : α → β → Prop} : ∀ {as : List α} {bs : List β}, as.length = bs.length → (∀ (i : Nat) (a : α) (b : β), as[i]? = some a → bs[i]? = some b → R a b) → PySem.W.EachIs R as bs
  | [], [], _, _ => .nil
  | a :: as, b :: bs, hl, h => .cons (h 0 a b rfl rfl) (each_of (by simpa using hl) fun i a b x y => h (i + 1) a b (by simpa using x) (by simpa using y))
  | [], _ :: _, hl, _ => by simp at hl
  | _ :: _, [], hl, _ => by simp at hl
section
variable {X : Cx}
def rSortK (K : PySem.W.Frag) : List V → Hp → VK → Prop := fun vs H Q => ∃ (l : Addr) (bs : List (Addr × List Nat)), vs = [.ref l] ∧ SqL K H l (bs.map fun b => V.ref b.1) ∧ (∀ b ∈ bs, H b.1 = some (.tup (gK b.2))) ∧ bs.length ≤ 10000 ∧
  ∀ (cs : List (Addr × List Nat)) (p : Addr), cs.Perm bs → H p = none → Q (.ref p) (upd H p (.lst (cs.map fun b => V.ref b.1)))
theorem cr_sortK (hu : X.A.units + 64 < cLine) : CallR X (.builtin "sorted") (rSortK X.K) := by
  intro pins s σ H vs us Q I r h
  obtain ⟨l, bs, e, hs, ht, hz, q⟩ := h
  subst e
  obtain ⟨its, rv, hl, _⟩ := I.list hs
  rw [Vals.ref1 r]
  have ei := vals_refs rv
  subst ei
  have sl : bs.length ≤ sizeLine := sz_of (by omega)
  refine PySem.W.sorted_data (enc := fun b : Addr × List Nat => kD b.2) (bs := bs) (R := fun v b => v = .ref b.1) hl.isList (each_refs bs) (each_of (by rw [List.length_map]) fun i v b h1 h2 => ?_) (fun d hd d' hd' => ?_) (.inl fun d hd => ?_) sl (fun b hb => ?_) fun out ho he => ?_
  · rw [List.getElem?_map, h2] at h1
    have h1 := Option.some.inj h1
    subst h1
    exact Dp.reads I (kD b.2) (.ref b.1) (.ref b.1) (.tup (st_of (ht b (List.mem_of_getElem? h2))) (.cons (.int _) (.cons (.str _) .nil))) rfl
  · obtain ⟨b, _, rfl⟩ := List.mem_map.mp hd
    obtain ⟨c, _, rfl⟩ := List.mem_map.mp hd'
    simp [kD, PySem.W.alike, PySem.W.alikeAll]
  · obtain ⟨b, _, rfl⟩ := List.mem_map.mp hd
    exact ⟨_, _, rfl⟩
  · have : (kD b.2).depth ≤ 1 := by simp [kD, PyData.depth, PyData.depthAll]
    omega
  · have eo := refs_each he
    have pm : (bs.mergeSort (PySem.W.dataLe false fun b : Addr × List Nat => kD b.2)).Perm bs := List.mergeSort_perm _ _
    subst eo
    obtain ⟨ep, he'⟩ := PyProof.Rows.sortedAll_at s.heap (bs.map fun b => Value.ref b.1) (List.toArray ((bs.mergeSort (PySem.W.dataLe false fun b : Addr × List Nat => kD b.2)).map fun b => Value.ref b.1))
    have len : ((bs.mergeSort (PySem.W.dataLe false fun b : Addr × List Nat => kD b.2)).map fun b => V.ref b.1).length ≤ sizeLine := by rw [List.length_map, pm.length_eq]; exact sl
    exact ⟨.ref _, upd H (s.heap.objs.size + 1) (.lst _), I.laid (t' := s.toks) (fun _ _ => PyProof.Rows.sortedAll_old) (Nat.le_succ _) ⟨len, _, ep, refs_vals _, he'⟩, rfl, q _ _ pm (I.hok.fresh (Nat.le_succ _))⟩
end
end Ow

namespace Ow
open PySem PySem.Spec PyProof.Rows L2 Evl
/-! ### all kinds, by their letters -/
theorem whole_of {F : Nat → Nat → Bool} {n : Nat} {W : List (List Nat)} (G : List Nat → List (List Nat)) (hG : ∀ S ∈ lots n, KindsOf F S (G S)) (hW : W.Perm ((lots n).flatMap G)) : Whole F n W := by
  have mem : ∀ k, k ∈ W ↔ ∃ S ∈ lots n, Kd F k ∧ ∀ x, x ∈ k ↔ x ∈ S := fun k => by
    rw [hW.mem_iff, List.mem_flatMap]
    exact ⟨fun ⟨S, hS, hk⟩ => ⟨S, hS, ((hG S hS).iff k).mp hk⟩, fun ⟨S, hS, hk⟩ => ⟨S, hS, ((hG S hS).iff k).mpr hk⟩⟩
  refine ⟨hW.nodup_iff.mpr ?_, fun k => ?_⟩
  · -- by the letters, no kind comes twice
    have asc : ∀ S ∈ lots n, S.Pairwise (· < ·) := fun S hS => (mem_lots.mp hS).1
    have nd := lots_nodup n
    have key : ∀ l : List (List Nat), l.Nodup → (∀ S ∈ l, S.Pairwise (· < ·) ∧ KindsOf F S (G S)) → (l.flatMap G).Nodup := by
      intro l
      induction l with
      | nil => intro _ _; exact List.nodup_nil
      | cons S r ih =>
        intro hn h
        obtain ⟨n1, n2⟩ := List.nodup_cons.mp hn
        rw [List.flatMap_cons]
        refine List.nodup_append.mpr ⟨(h S List.mem_cons_self).2.nd, ih n2 fun T hT => h T (List.mem_cons_of_mem _ hT), fun a ha b hb e => ?_⟩
        subst e
        obtain ⟨T, hT, hbT⟩ := List.mem_flatMap.mp hb
        obtain ⟨a1, k1⟩ := h S List.mem_cons_self
        obtain ⟨a2, k2⟩ := h T (List.mem_cons_of_mem _ hT)
        have m1 := ((k1.iff a).mp ha).2
        have m2 := ((k2.iff a).mp hbT).2
        have p : S.Perm T := (List.perm_ext_iff_of_nodup (asc_nodup a1) (asc_nodup a2)).mpr fun x => (m1 x).symm.trans (m2 x)
        exact n1 (perm_asc p (asc_le a1) (asc_le a2) ▸ hT)
    exact key _ nd fun S hS => ⟨asc S hS, hG S hS⟩
  · rw [mem k]
    constructor
    · rintro ⟨S, hS, hk, hx⟩
      exact ⟨hk, fun x h => (mem_lots.mp hS).2 x ((hx x).mp h)⟩
    · rintro ⟨hk, hx⟩
      -- its letters in a row
      have : ∃ S : List Nat, S.Pairwise (· < ·) ∧ ∀ x, x ∈ k ↔ x ∈ S := by
        refine ⟨(List.range' 97 n).filter (fun x => k.contains x), (List.pairwise_lt_range' (s := 97) (n := n)).sublist List.filter_sublist, fun x => ?_⟩
        rw [List.mem_filter, List.mem_range'_1, List.contains_iff_mem]
        exact ⟨fun h => ⟨hx x h, h⟩, fun h => h.2⟩
      obtain ⟨S, s1, s2⟩ := this
      exact ⟨S, mem_lots.mpr ⟨s1, fun x h => hx x ((s2 x).mpr h)⟩, hk, s2⟩
theorem kinds_of_orders {F : Nat → Nat → Bool} (sym : ∀ a b, F a b = F b a) {S : List Nat} {rows ks : List (List Nat)} (hO : Ords S rows) (few : rows.length ≤ 24) (nd : ks.Nodup) (hm : ∀ k, k ∈ ks ↔ k ∈ rows.map (kd F)) : KindsOf F S ks := by
  refine ⟨nd, fun k => ?_, ?_⟩
  · rw [hm, List.mem_map]
    constructor
    · rintro ⟨o, ho, rfl⟩
      obtain ⟨_, b⟩ := (hO o).mp ho
      exact ⟨kd_kd sym o, fun x => kd_mem.trans (b x)⟩
    · rintro ⟨a, b⟩
      refine ⟨k, (hO k).mpr ⟨a.nd, b⟩, ?_⟩
      unfold kd
      rw [firsts_self k a.nd, a.lo]
  · have : ks.length ≤ (rows.map (kd F)).length := by
      have := List.Nodup.length_le_of_subset nd fun k hk => (hm k).mp hk
      exact this
    rw [List.length_map] at this
    omega
end Ow

namespace Ow
open PySem PySem.Spec PyProof.Rows L2 Evl
theorem allT_nodup (xs : List Str) : (allT xs).Nodup := by
  have key : ∀ (xs L : List Str), L.Nodup → (xs.foldl (fun L x => addT x L) L).Nodup := by
    intro xs
    induction xs with
    | nil => exact fun L h => h
    | cons x r ih =>
      intro L h
      rw [List.foldl_cons]
      refine ih _ ?_
      unfold addT
      split
      · exact h
      · rename_i hx
        exact List.nodup_cons.mpr ⟨hx, h⟩
  exact key xs [] List.nodup_nil
/-- texts told by their signs -/
theorem txs_back {ys : List Str} {ws : List (List Nat)} (h : ∀ y ∈ ys, ∃ k ∈ ws, y = tx k) : ∃ ks : List (List Nat), ys = ks.map tx ∧ ∀ k ∈ ks, k ∈ ws := by
  refine ⟨ys.map fun y => y.cps.toList, ?_, fun k hk => ?_⟩
  · rw [List.map_map]
    conv => lhs; rw [← List.map_id ys]
    refine List.map_congr_left fun y hy => ?_
    obtain ⟨k, _, rfl⟩ := h y hy
    show tx k = tx ((tx k).cps.toList)
    rw [tx_list]
  · obtain ⟨y, hy, rfl⟩ := List.mem_map.mp hk
    obtain ⟨k, hk2, rfl⟩ := h y hy
    rw [tx_list]
    exact hk2
theorem evp_cb1 {r : List V → Hp → VK → Prop} {σ : L2.St} {H : Hp} {ta : TE} {P1 P2 : V → Hp → Prop} (h : EvP ta σ H P1) (hr : ∀ v H1, Ex H H1 → P1 v H1 → ∀ Q : VK, (∀ z H2, Ex H1 H2 → P2 z H2 → Q z H2) → r [v] H1 Q) : EvP (tCB r (tCons ta tNil)) σ H P2 := fun H1 e Q q =>
  h H1 e _ fun v H2 e2 p => hr v H2 (e.trans e2) p Q fun z H3 e3 p3 => q z H3 (e2.trans e3) p3
section
variable {P : Program} {w : World} {K : PySem.W.Frag} {mg : Str → Option Value} {base : Heap} (T : Txt K mg)
theorem ok_kinds_of (GO : FnOk P w K mg base CX0 1 T.l_orders.f T.l_orders.d ["_law_letters"] spOrders) (GK : FnOk P w K mg base CX0 2 T.l_kind.f T.l_kind.d ["_law_company_here", "_law_word_here"] spKind) :
    FnOk P w K mg base CX0 3 T.l_kinds_of.f T.l_kinds_of.d ["_law_company_here", "_law_letters"] spKindsOf := by
  refine T.l_kinds_of.F.ok sc_l_kinds_of (fun vs H Q E h => ?_) (fun cdv A outer s H vs Q E hr h => ?_)
  · obtain ⟨c, n, ps, S, rfl, _⟩ := h
    rfl
  · obtain ⟨c, n, ps, S, rfl, hc, hv, hS, hl, k⟩ := h
    refine ⟨_, pss_one (ps_ret (pe_callB (cr_sortSetT rfl) (by rfl) T.z_sorted (by decide +kernel) (pa_cons (pe_callTy (cr_setT rfl) (by rfl) T.z_set (by decide +kernel) (pa_cons
      (pe_lc (own := [("_law_order", 2)]) (g := gName 2) rfl sc_l_kinds_of.nd (pi_list (pe_call GO (hr.mono (by decide)) (by rfl) T.l_orders.g T.l_orders.F.kp T.l_orders.b .nil pass0 (pa_cons (pv 1) pa_nil))) (blkOk_by (N := ["_law_company_here", "_law_letters", "_law_order"]) (sc := defScope s_l_kinds_of) (by decide +kernel)) (fun _ _ _ _ _ => pg_name (i := 2) sc_l_kinds_of.nd rfl (.inl rfl))
        (fun _ _ _ _ _ => pts_nil) (fun _ _ _ _ _ => pe_call GK hr (by rfl) T.l_kind.g T.l_kind.F.kp T.l_kind.b .nil pass0 (pa_cons (pv 0) (pa_cons (pv 2) pa_nil)))) pa_nil)) pa_nil))), ?_⟩
    have hn := hv.hi
    have h4 : S.length ≤ 4 := by have := asc_len (lo := 97) hS hl; omega
    refine s_retP (P := fun v H2 => ∃ p ks, v = .ref p ∧ H2 p = some (.lst (txs ks)) ∧ KindsOf (fr ps) S ks) ?_ fun v H1 e1 hP => k v H1 e1 hP
    refine evp_cb1 (P1 := fun v H2 => ∃ q rows, v = .ref q ∧ H2 q = some (TxO w q (allT ((rows.map (kd (fr ps))).map tx))) ∧ rows.length ≤ 24 ∧ Ords S rows) (evp_cb1 (P1 := fun v H2 => ∃ q rows, v = .ref q ∧ H2 q = some (.lst (txs (rows.map (kd (fr ps))))) ∧ rows.length ≤ 24 ∧ Ords S rows)
      ((evp_lc (I := fun ys _ => ∃ rows, ys = txs rows ∧ rows.length ≤ 24 ∧ Ords S rows) (fun ys i acc _ => ∃ rows, ys = txs rows ∧ rows.length ≤ 24 ∧ Ords S rows ∧ acc = txs ((rows.take i).map (kd (fr ps)))) (evx_listP ((evp_call (ea_cons (ev_var rfl) ea_nil) fun H1 e Q q E => ⟨S, rfl, hS, h4, q⟩).weak fun v H2 e2 ⟨p, rows, a, b, c1, d⟩ => ⟨p, txs rows, a, b, rows, rfl, c1, d⟩)) (fun x => rfl)
        (fun ys i acc H1 H2 e a => a) (fun ys i acc H1 D l o hD a => a) (fun ys H1 e ⟨rows, a, b, c1⟩ => ⟨rows, a, b, c1, rfl⟩) (fun ys i x acc H0 H1 e0 hI e1 hx ⟨rows, a, b, o, ha⟩ hl2 => ?_)).weak fun v H2 e2 ⟨p, ys, acc, hv2, hp, _, ⟨rows, a, b, o, ha⟩, hl2⟩ => ⟨p, rows, hv2, ?_, b, o⟩)
      (fun v H1 e1 ⟨q, rows, hv2, hq, b, o⟩ Q2 q2 => ?_)) fun v H1 e1 ⟨q, rows, hv2, hq, b, o⟩ Q2 q2 => ?_
    · subst a
      have hi : i < rows.length := by have := (List.getElem?_eq_some_iff.mp hx).1; unfold txs at this; rwa [List.length_map] at this
      have hri : rows[i]? = some rows[i] := List.getElem?_eq_getElem hi
      unfold txs at hx
      rw [List.getElem?_map, hri] at hx
      have hx := Option.some.inj hx
      subst hx
      obtain ⟨o1, o2⟩ := (o _).mp (List.getElem_mem hi)
      have ol : (rows[i]).length ≤ S.length := nodup_len_le o1 fun x hx => (o2 x).mp hx
      refine ⟨by omega, true, et_yes, fun z => Bool.noConfusion z, fun _ => ?_⟩
      refine (Ev.toP (ev_call0 (ea_cons (ev_var rfl) (ea_cons (ev_var rfl) ea_nil)) fun H2 e2 Q q E => ⟨c, n, ps, rows[i], rfl, hc.mono ((e0.trans e1).trans e2), hv, fun x hx => hl x ((o2 x).mp hx), by omega, fun H3 e3 => q H3 e3⟩)).weak fun v H2 e2 hv2 => ⟨rows, rfl, b, o, ?_⟩
      rw [hv2, ha, List.take_add_one, hri, List.map_append, txs_app]
      rfl
    · rw [hp, ha, a]
      unfold txs
      rw [List.length_map, List.take_length]
    · subst hv2
      refine ⟨q, (rows.map (kd (fr ps))).map tx, rfl, sq_of (by rw [hq, txs_strs]), by rw [List.length_map, List.length_map]; omega, fun p hp => q2 _ _ (Ex.new hp) ⟨p, rows, rfl, upd_same, b, o⟩⟩
    · subst hv2
      have len := allT_len ((rows.map (kd (fr ps))).map tx)
      rw [List.length_map, List.length_map] at len
      refine ⟨q, _, rfl, hq, by omega, fun ys p pm hp => ?_⟩
      obtain ⟨ks, rfl, hks⟩ := txs_back (ys := ys) (ws := rows.map (kd (fr ps))) fun y hy => by
        obtain ⟨k, hk, e⟩ := List.mem_map.mp (mem_allT.mp (pm.mem_iff.mp hy))
        exact ⟨k, hk, e.symm⟩
      refine q2 _ _ (Ex.new hp) ⟨p, ks, rfl, by rw [upd_same, txs_strs], kinds_of_orders (fr_sym ps) o b ?_ fun k => ⟨hks k, fun hk => ?_⟩⟩
      · exact List.Pairwise.of_map tx (fun a b h e => h (by rw [e])) ((pm.nodup_iff).mpr (allT_nodup _))
      · have : tx k ∈ ks.map tx := pm.mem_iff.mpr (mem_allT.mpr (List.mem_map.mpr ⟨k, hk, rfl⟩))
        obtain ⟨k', hk', e⟩ := List.mem_map.mp this
        rw [← tx_inj e]
        exact hk'
end
end Ow

namespace Ow
open PySem PySem.Spec PyProof.Rows L2 Evl
/-- the kinds of the sets l -/
structure AllK (F : Nat → Nat → Bool) (l : List (List Nat)) (W : List (List Nat)) : Prop where
  nd : W.Nodup
  iff : ∀ k, k ∈ W ↔ ∃ S ∈ l, Kd F k ∧ ∀ x, x ∈ k ↔ x ∈ S
  few : W.length ≤ 24 * l.length
theorem AllK.step {F : Nat → Nat → Bool} {l W ks : List (List Nat)} {S : List Nat} (h : AllK F l W) (hl : ∀ T ∈ l, T.Pairwise (· < ·)) (hS : S.Pairwise (· < ·)) (nS : S ∉ l) (hk : KindsOf F S ks) : AllK F (l ++ [S]) (W ++ ks) := by
  refine ⟨List.nodup_append.mpr ⟨h.nd, hk.nd, fun a ha b hb e => ?_⟩, fun k => ?_, ?_⟩
  · subst e
    obtain ⟨T, hT, _, m1⟩ := (h.iff a).mp ha
    have m2 := ((hk.iff a).mp hb).2
    have p : T.Perm S := (List.perm_ext_iff_of_nodup (asc_nodup (hl T hT)) (asc_nodup hS)).mpr fun x => (m1 x).symm.trans (m2 x)
    exact nS (perm_asc p (asc_le (hl T hT)) (asc_le hS) ▸ hT)
  · rw [List.mem_append, h.iff, hk.iff]
    constructor
    · rintro (⟨T, hT, r⟩ | r)
      · exact ⟨T, List.mem_append_left _ hT, r⟩
      · exact ⟨S, List.mem_append_right _ (List.mem_singleton.mpr rfl), r⟩
    · rintro ⟨T, hT, r⟩
      rcases List.mem_append.mp hT with hT | hT
      · exact .inl ⟨T, hT, r⟩
      · rw [List.mem_singleton] at hT
        subst hT
        exact .inr r
  · have := h.few
    have := hk.few
    rw [List.length_append, List.length_append, List.length_singleton]
    omega
theorem AllK.whole {F : Nat → Nat → Bool} {n : Nat} {W W' : List (List Nat)} (h : AllK F (lots n) W) (p : W'.Perm W) : Whole F n W' := by
  refine ⟨p.nodup_iff.mpr h.nd, fun k => ?_⟩
  rw [p.mem_iff, h.iff]
  constructor
  · rintro ⟨S, hS, hk, hx⟩
    exact ⟨hk, fun x hm => (mem_lots.mp hS).2 x ((hx x).mp hm)⟩
  · rintro ⟨hk, hx⟩
    have : ∃ S : List Nat, S.Pairwise (· < ·) ∧ ∀ x, x ∈ k ↔ x ∈ S := by
      refine ⟨(List.range' 97 n).filter (fun x => k.contains x), (List.pairwise_lt_range' (s := 97) (n := n)).sublist List.filter_sublist, fun x => ?_⟩
      rw [List.mem_filter, List.mem_range'_1, List.contains_iff_mem]
      exact ⟨fun h => ⟨hx x h, h⟩, fun h => h.2⟩
    obtain ⟨S, s1, s2⟩ := this
    exact ⟨S, mem_lots.mpr ⟨s1, fun x h => hx x ((s2 x).mpr h)⟩, hk, s2⟩
theorem lots_len (n : Nat) : (lots n).length = 2 ^ n := by unfold lots; rw [List.length_map, sets_len]
/-- addresses with what they hold -/
theorem GA.zip {H : Hp} {rs : List Addr} {ks : List (List Nat)} (h : GA gK H rs ks) : ∃ bs : List (Addr × List Nat), rs = bs.map (·.1) ∧ ks = bs.map (·.2) ∧ ∀ b ∈ bs, H b.1 = some (.tup (gK b.2)) := by
  refine ⟨rs.zip ks, ?_, ?_, fun b hb => ?_⟩
  · rw [List.map_fst_zip (by rw [h.1]; exact Nat.le_refl _)]
  · rw [List.map_snd_zip (by rw [h.1]; exact Nat.le_refl _)]
  · obtain ⟨i, hi, e⟩ := List.getElem_of_mem hb
    have h1 : i < rs.length := by rw [List.length_zip] at hi; omega
    have h2 : i < ks.length := by rw [← h.1]; exact h1
    rw [List.getElem_zip] at e
    have := h.2 i rs[i] ks[i] (List.getElem?_eq_getElem h1) (List.getElem?_eq_getElem h2)
    rw [← e]
    exact this
theorem evp_lcK {K : PySem.W.Frag} {wi : TI} {H : Hp} {s0 s1 s2 : Option V} {W : List (List Nat)} (hI : EvX wi [s0, s1, s2, none, none] H fun xs H2 => ∃ cs : List (Addr × List Nat), xs = cs.map (fun b => V.ref b.1) ∧ (∀ b ∈ cs, H2 b.1 = some (.tup (gK b.2))) ∧ (cs.map (·.2)).Perm W) (hz : W.length ≤ 40000) :
    EvP (tLc wi (gTup K 2 (gCons (gName 4) (gCons (gName 3) gNil))) tYes (tVar 3) [3, 4]) [s0, s1, s2, none, none] H fun v H2 => ∃ p W', v = .ref p ∧ H2 p = some (.lst (txs W')) ∧ W'.Perm W := fun H1 e Q q => hI H1 e _ fun J H2 xs G e2 hxs wk hG Dl hD => by
  obtain ⟨cs, hx, ht, pm⟩ := hxs
  subst hx
  refine lc_it wk (fun i H' => Ex H2 H' ∧ H' Dl = some (.lst (txs ((cs.map (·.2)).take i)))) ⟨Ex.new hD, upd_same⟩ (fun i H' _ pv => hG H' pv.1) (fun i x H' H'' hi pv y => ?_) fun H' pv => ?_
  · obtain ⟨rfl, hx⟩ := y
    obtain ⟨p1, p2⟩ := pv
    rw [List.length_map] at hi
    have hci : cs[i]? = some cs[i] := List.getElem?_eq_getElem hi
    rw [List.getElem?_map, hci] at hx
    have hx := Option.some.inj hx
    subst hx
    have hb := p1 _ _ (ht _ (List.getElem_mem hi))
    refine ⟨_, _, rfl, st_of hb, rfl, _, _, rfl, _, _, rfl, rfl, rfl, yes_it (iteT ⟨_, rfl, _, p2, sz_lt ?_, Ex.mut p1 hD, ?_⟩)⟩
    · have := pm.length_eq
      rw [List.length_map] at this
      unfold txs
      rw [List.length_map, List.length_take, List.length_map]
      omega
    · rw [upd_same, List.take_add_one, List.getElem?_map, hci, txs_app]
      rfl
  · obtain ⟨p1, p2⟩ := pv
    rw [List.length_map] at p2
    rw [List.take_of_length_le (by rw [List.length_map]; exact Nat.le_refl _)] at p2
    exact q _ H' (e2.trans p1) ⟨Dl, _, rfl, p2, pm⟩
section
variable {P : Program} {w : World} {K : PySem.W.Frag} {mg : Str → Option Value} {base : Heap} (T : Txt K mg)
theorem ok_kinds (GL : FnOk P w K mg base CX0 2 T.l_lots.f T.l_lots.d ["_law_many"] spLots) (GO : FnOk P w K mg base CX0 3 T.l_kinds_of.f T.l_kinds_of.d ["_law_company_here", "_law_letters"] spKindsOf) :
    FnOk P w K mg base CX0 4 T.l_kinds.f T.l_kinds.d ["_law_company_here"] spKinds := by
  refine T.l_kinds.F.ok sc_l_kinds (fun vs H Q E h => ?_) (fun cdv A outer s H vs Q E hr h => ?_)
  · obtain ⟨c, n, ps, rfl, _⟩ := h
    rfl
  · obtain ⟨c, n, ps, rfl, hc, hv, k⟩ := h
    refine ⟨_, pss_cons (ps_set (i := 1) sc_l_kinds.nd rfl (.inl rfl) (pe_lst pa_nil))
      (pss_cons (ps_for PassesOwn.never rfl (pi_list (pe_call GL (hr.mono (by decide)) (by rfl) T.l_lots.g T.l_lots.F.kp T.l_lots.b .nil pass0 (pa_cons (pe_ix ix_tup (pv 0) pe_int (fun _ _ => rfl)) pa_nil))) (pg_name (i := 2) sc_l_kinds.nd rfl (.inl rfl))
        (pss_one (ps_set (i := 1) sc_l_kinds.nd rfl (.inl rfl) (pe_op op_cat (pv 1)
          (pe_lc (own := [("_law_kind_here", 3)]) (g := gName 3) rfl sc_l_kinds.nd (pi_list (pe_call GO hr (by rfl) T.l_kinds_of.g T.l_kinds_of.F.kp T.l_kinds_of.b .nil pass0 (pa_cons (pv 0) (pa_cons (pv 2) pa_nil)))) (blkOk_by (N := ["_law_company_here", "_law_found", "_law_letters", "_law_kind_here", "_law_size"]) (sc := defScope s_l_kinds) (by decide +kernel)) (fun _ _ _ _ _ => pg_name (i := 3) sc_l_kinds.nd rfl (.inl rfl))
            (fun _ _ _ _ _ => pts_nil) (fun _ _ _ _ _ => pe_tup (pa_cons (pe_callB call_len_str (by rfl) T.z_len PySem.boot_len (pa_cons (pv 3) pa_nil)) (pa_cons (pv 3) pa_nil))))))))
      (pss_one (ps_ret (pe_lc (own := [("_law_kind_here", 3), ("_law_size", 4)]) (g := gTup K 2 (gCons (gName 4) (gCons (gName 3) gNil))) rfl sc_l_kinds.nd (pi_list (pe_callB (cr_sortK (room64 hr)) (by rfl) T.z_sorted (by decide +kernel) (pa_cons (pv 1) pa_nil))) (blkOk_by (N := ["_law_company_here", "_law_found", "_law_letters", "_law_kind_here", "_law_size"]) (sc := defScope s_l_kinds) (by decide +kernel))
        (fun _ _ _ _ _ => pg_tup rfl (pgs_cons (pg_name (i := 4) sc_l_kinds.nd rfl (.inl rfl)) (pgs_cons (pg_name (i := 3) sc_l_kinds.nd rfl (.inl rfl)) pgs_nil))) (fun _ _ _ _ _ => pts_nil) (fun _ _ _ _ _ => pv 3))))), ?_⟩
    have hn := hv.hi
    obtain ⟨q0, rs0, c1, c2, c3, c4⟩ := hc.ex
    have l16 : (lots n).length ≤ 16 := by
      rw [lots_len]
      have : (2 : Nat) ^ n ≤ 2 ^ 4 := Nat.pow_le_pow_right (by decide) hn
      omega
    refine q_asgL (el_lst ea_nil (by decide)) fun p H1 hp e1 h1 => ?_
    refine q_forX (evx_listP (I := fun xs _ => xs = txs (lots n)) ((evp_call (ea_cons (ev_op (ev_var rfl) ev_c (rv_ixT (st_of (e1 _ _ c1)) (atI_nat (j := 0) rfl))) ea_nil) fun H2 e Q q E => ⟨n, rfl, hn, q⟩).weak fun v H2 e2 ⟨p, a, b⟩ => ⟨p, txs (lots n), a, b, rfl⟩))
      (fun H0 xs i σ' H' => Ex H1 H0 ∧ Ex H0 H' ∧ ∃ p o2 rs W, σ' = [some (.ref c), some (.ref p), o2, none, none] ∧ H' p = some (.lst (rs.map V.ref)) ∧ GA gK H' rs W ∧ AllK (fr ps) ((lots n).take i) W) (fun H0 xs i σ' H' pv => pv.2.1)
      (fun xs H2 e2 _ => ⟨e2, Ex.refl _, p, none, [], [], rfl, e2 _ _ h1, GA.nil, ⟨List.nodup_nil, fun k => ⟨fun h => (by cases h), fun ⟨S, h, _⟩ => (by cases h)⟩, Nat.zero_le _⟩⟩) (fun H0 xs i x σ' H' e0 hI hx pv => ?_) (fun H0 xs σ' H' e0 hI pv => ?_)
    · obtain ⟨p0, p1, l, o2, rs, W, hs, hl, hg, ha⟩ := pv
      subst hs
      have hI : xs = txs (lots n) := hI
      subst hI
      have hi : i < (lots n).length := by have := (List.getElem?_eq_some_iff.mp hx).1; unfold txs at this; rwa [List.length_map] at this
      have hsi : (lots n)[i]? = some (lots n)[i] := List.getElem?_eq_getElem hi
      unfold txs at hx
      rw [List.getElem?_map, hsi] at hx
      have hx := Option.some.inj hx
      subst hx
      have hm : (lots n)[i] ∈ lots n := List.getElem_mem hi
      have tk : (lots n).take (i + 1) = (lots n).take i ++ [(lots n)[i]] := by rw [List.take_add_one, hsi]; rfl
      have nin : (lots n)[i] ∉ (lots n).take i := fun h => by
        obtain ⟨j, hj, ej⟩ := List.getElem_of_mem h
        rw [List.length_take] at hj
        rw [List.getElem_take] at ej
        have := (List.getElem_inj (lots_nodup n)).mp ej
        omega
      generalize (lots n)[i] = S at hm tk nin
      obtain ⟨s1, s2⟩ := mem_lots.mp hm
      have sl : S.length ≤ 4 := by have := asc_len (lo := 97) s1 s2; omega
      have eH : Ex H H' := (e1.trans p0).trans p1
      have len1 : rs.length ≤ 384 := by
        rw [hg.1]
        have := ha.few
        rw [List.length_take] at this
        omega
      refine s_asgP (evp_cat (n := 24) (Z := fun zs H3 => ∃ (rt : List Addr) (ks : List (List Nat)), zs = rt.map V.ref ∧ GA gK H3 rt ks ∧ KindsOf (fr ps) S ks) (ev_var rfl) hl ((evp_lc (I := fun ys _ => ∃ ks, ys = txs ks ∧ KindsOf (fr ps) S ks) (fun ys j acc H3 => ∃ (ks : List (List Nat)) (rt : List Addr), ys = txs ks ∧ KindsOf (fr ps) S ks ∧ acc = rt.map V.ref ∧ GA gK H3 rt (ks.take j))
        (evx_listP ((evp_call (ea_cons (ev_var rfl) (ea_cons (ev_var rfl) ea_nil)) fun H3 e Q q E => ⟨c, n, ps, S, rfl, hc.mono (eH.trans e), hv, s1, s2, q⟩).weak fun v H3 e3 ⟨p, ks, a, b, d⟩ => ⟨p, txs ks, a, b, ks, rfl, d⟩)) (fun x => rfl)
        (fun ys j acc H3 H4 e ⟨ks, rt, a, b, d, g⟩ => ⟨ks, rt, a, b, d, g.mono e⟩) (fun ys j acc H3 D l o hD ⟨ks, rt, a, b, d, g⟩ => ⟨ks, rt, a, b, d, g.upd hD⟩) (fun ys H3 e ⟨ks, a, b⟩ => ⟨ks, [], a, b, rfl, GA.nil⟩)
        (fun ys j x acc H3 H4 e hys e4 hx ⟨ks, rt, a, b, d, g⟩ hl2 => ?_)).weak fun v H3 e3 ⟨p, ys, acc, hv2, hp, _, ⟨ks, rt, a, b, d, g⟩, hl2⟩ => ⟨p, acc, hv2, hp, ?_, rt, ks, d, ?_, b⟩) (by rw [List.length_map]; omega) (fun zs H3 H4 e ⟨rt, ks, a, b, d⟩ => ⟨rt, ks, a, b.mono e, d⟩)) fun v H3 e3 ⟨q, zs, hv2, hq, hlen, rt, ks, ha2, hb2, hk2⟩ => ?_
      · subst a
        have hj : j < ks.length := by have := (List.getElem?_eq_some_iff.mp hx).1; unfold txs at this; rwa [List.length_map] at this
        have hkj : ks[j]? = some ks[j] := List.getElem?_eq_getElem hj
        unfold txs at hx
        rw [List.getElem?_map, hkj] at hx
        have hx := Option.some.inj hx
        subst hx
        have tk2 : ks.take (j + 1) = ks.take j ++ [ks[j]] := by rw [List.take_add_one, hkj]; rfl
        obtain ⟨k1, k2⟩ := (b.iff _).mp (List.getElem_mem hj)
        have kl : (ks[j]).length ≤ S.length := nodup_len_le k1.nd fun x hx => (k2 x).mp hx
        have := b.few
        refine ⟨by omega, true, et_yes, fun z => Bool.noConfusion z, fun _ => ?_⟩
        intro H5 e5 Q2 q2
        refine eu_tup (ea_cons (ev_lenS (ev_var rfl) (by omega)) (ea_cons (ev_var rfl) ea_nil)) (by simp) H5 e5 _ fun p5 H6 _ e6 h6 => q2 _ _ e6 ⟨ks, rt ++ [p5], rfl, b, by rw [d, List.map_append]; rfl, ?_⟩
        rw [tk2]
        exact (g.mono (e5.trans e6)).snoc h6
      · rw [a] at hl2
        unfold txs at hl2
        rw [List.length_map] at hl2
        have := b.few
        omega
      · rw [a] at g
        unfold txs at g
        rwa [List.length_map, List.take_length] at g
      · subst hv2
        refine ⟨p0, p1.trans e3, q, _, rs ++ rt, W ++ ks, rfl, by rw [hq, ha2, List.map_append], (hg.mono e3).app hb2, ?_⟩
        rw [tk]
        exact ha.step (fun T hT => (mem_lots.mp (List.mem_of_mem_take hT)).1) s1 nin hk2
    · obtain ⟨p0, p1, l, o2, rs, W, hs, hl, hg, ha⟩ := pv
      subst hs
      have hI : xs = txs (lots n) := hI
      subst hI
      unfold txs at ha
      rw [List.length_map, List.take_length] at ha
      have few := ha.few
      obtain ⟨bs, b1, b2, b3⟩ := hg.zip
      refine s_retP (evp_lcK (W := W) (evx_listP fun H2 e2 Q2 q2 => ?_) (by omega)) fun v H2 e2 ⟨p, W', hv2, hp, pm⟩ => k v H2 (((e1.trans p0).trans p1).trans e2) ⟨p, W', hv2, hp, ha.whole pm, by have := pm.length_eq; omega⟩
      refine ⟨_, rfl, l, bs, rfl, sq_of (by rw [e2 _ _ hl, b1, List.map_map]; rfl), fun b hb => e2 _ _ (b3 b hb), ?_, fun cs p pm hp => q2 _ _ (Ex.new hp) ⟨p, _, rfl, upd_same, cs, rfl, fun b hb => Ex.new hp _ _ (e2 _ _ (b3 b (pm.mem_iff.mp hb))), ?_⟩⟩
      · have : W.length = bs.length := by rw [b2, List.length_map]
        omega
      · rw [b2]
        exact pm.map _
end
end Ow

namespace Ow
open PySem PySem.Spec PyProof.Rows L2 Evl
/-- an error of the class at S is what «except S» names -/
theorem exm_self {K : PySem.W.Frag} {S : Addr} (h1 : PySem.W.subIn K (.ref S) (.type "BaseException") = some true) (h2 : PySem.W.isClsIn K S = true) (h3 : PySem.W.typeIn K (.ref S) = some (.type "type")) (h4 : PySem.W.subIn K (.ref S) (.ref S) = some true) :
    PySem.W.exmOne K (.ref S) (.ref S) = some true := by
  have e1 : (PySem.W.subIn K (.ref S) (.type "BaseException") == some true) = true := by rw [h1] <;> rfl
  have e2 : ((PySem.W.clsIn K S).isSome && PySem.W.typeIn K (.ref S) == some (.type "type")) = true := by
    have h2' : (PySem.W.clsIn K S).isSome = true := h2
    rw [h2', h3] <;> rfl
  show (if (PySem.W.subIn K (.ref S) (.type "BaseException") == some true) = true then (if ((PySem.W.clsIn K S).isSome && PySem.W.typeIn K (.ref S) == some (.type "type")) = true then PySem.W.subIn K (.ref S) (.ref S) else none) else none) = some true
  rw [if_pos e1, if_pos e2]
  exact h4
def tBeg (i j : Nat) : TT := tB (tCall spBegins [] E0 (tCons (tVar 2) (tCons (tVar i) (tCons (tVar j) tNil))))
def tIn (K : PySem.W.Frag) (l x y : Nat) : TE := tLc (iList K (tVar l)) (gName 12) (tNot (tBeg x y)) (tVar 12) [12]
def ttBest (K : PySem.W.Frag) (l x y : Nat) : TT := tTest (tOp (rEqD K) (tIn K l x y) (tLst tNil))
abbrev scTop : Scope := { kind := .function, names := [(".0", .local), ("_law_kind_here", .cell), ("_law_both", .free), ("_law_company_here", .free)], isGenerator := false, isCoroutine := false }
abbrev scLeast : Scope := { kind := .function, names := [(".0", .local), ("_law_kind_here", .cell), ("_law_company_here", .free), ("_law_over", .free)], isGenerator := false, isCoroutine := false }
/-! ### lists of texts against the empty list -/
def wD (k : List Nat) : PyData := .str (tx k)
theorem wD_ok {k : List Nat} (h : ∀ x ∈ k, x < 128) : PyData.strOk (tx k) = true := by
  unfold PyData.strOk
  rw [Array.all_eq_true_iff_forall_mem]
  intro x hx
  have hm : x ∈ k := by simpa using hx
  have := h x hm
  exact decide_eq_true (by omega)
theorem wDs_lay : ∀ ws : List (List Nat), (∀ k ∈ ws, ∀ x ∈ k, x < 128) → PyData.canLayAll0 (ws.map wD) = true
  | [], _ => by simp [PyData.canLayAll0]
  | k :: r, h => by simp [PyData.canLayAll0, wD, PyData.canLay0, wD_ok (h k List.mem_cons_self)]; exact wDs_lay r fun y hy => h y (List.mem_cons_of_mem _ hy)
theorem wDs_depth : ∀ ws : List (List Nat), PyData.depthAll (ws.map wD) ≤ 1
  | [] => by simp [PyData.depthAll]
  | z :: zs => by
    have := wDs_depth zs
    have e : PyData.depthAll ((z :: zs).map wD) = max (PyData.depth (wD z)) (PyData.depthAll (zs.map wD)) := by simp only [List.map_cons, PyData.depthAll]
    have e2 : PyData.depth (wD z) = 0 := by simp only [wD, PyData.depth]
    rw [e, e2]
    omega
theorem wDs_shaped (ws : List (List Nat)) (h : ∀ k ∈ ws, ∀ x ∈ k, x < 128) : SeqAt.shaped (.list (ws.map wD)) = true := by
  have h1 := wDs_depth ws
  have h2 : PyData.depth (.list (ws.map wD)) ≤ 64 := by
    simp only [PyData.depth]
    omega
  show (PyData.canLay0 (.list (ws.map wD)) && decide (PyData.depth (.list (ws.map wD)) ≤ 64)) = true
  rw [Bool.and_eq_true]
  exact ⟨by simp only [PyData.canLay0]; exact wDs_lay ws h, decide_eq_true h2⟩
theorem dp_txs {K : PySem.W.Frag} {H : Hp} : ∀ ws : List (List Nat), DpAll K H (txs ws) (ws.map wD)
  | [] => .nil
  | z :: zs => .cons (.str _) (dp_txs zs)
theorem eqv_nil : ∀ ws : List (List Nat), PyData.eqv (.list (ws.map wD)) (.list ([] : List PyData)) = ws.isEmpty
  | [] => by simp [PyData.eqv, PyData.eqvAll]
  | _ :: _ => by simp [PyData.eqv, PyData.eqvAll]
section
variable {K : PySem.W.Frag} {σ : L2.St} {H H' : Hp} {ta tb te : TE}
theorem ev_eqNil {ws : List (List Nat)} (h : EvP ta σ H fun v H2 => ∃ p, v = .ref p ∧ H2 p = some (.lst (txs ws))) (hb : ∀ k ∈ ws, ∀ x ∈ k, x < 128) : Ev (tOp (rEqD K) ta (tLst tNil)) σ H (.bl ws.isEmpty) := fun H1 e Q q =>
  h H1 e _ fun v H2 e2 ⟨p, hv, hp⟩ => ⟨show (0 : Nat) ≤ sizeLine by decide, fun p2 hp2 => by
    subst hv
    refine ⟨_, _, .lst (sq_of (Ex.new hp2 _ _ hp)) (dp_txs ws), .lst (sq_of upd_same) .nil, wDs_shaped ws hb, by decide, ?_⟩
    rw [eqv_nil]
    exact q _ (e2.trans (Ex.new hp2))⟩
theorem ev_neNil {ws : List (List Nat)} (h : EvP ta σ H fun v H2 => ∃ p, v = .ref p ∧ H2 p = some (.lst (txs ws))) (hb : ∀ k ∈ ws, ∀ x ∈ k, x < 128) : Ev (tOp (rNeD K) ta (tLst tNil)) σ H (.bl (!ws.isEmpty)) := fun H1 e Q q =>
  h H1 e _ fun v H2 e2 ⟨p, hv, hp⟩ => ⟨show (0 : Nat) ≤ sizeLine by decide, fun p2 hp2 => by
    subst hv
    refine ⟨_, _, .lst (sq_of (Ex.new hp2 _ _ hp)) (dp_txs ws), .lst (sq_of upd_same) .nil, wDs_shaped ws hb, by decide, ?_⟩
    rw [eqv_nil]
    exact q _ (e2.trans (Ex.new hp2))⟩
theorem evp_varL {i : Nat} {p : Addr} {xs : List V} (h : σ[i]? = some (some (.ref p))) (hp : H p = some (.lst xs)) : EvP (tVar i) σ H fun v H2 => ∃ p, v = .ref p ∧ H2 p = some (.lst xs) :=
  (Ev.toP (ev_var h)).weak fun v H2 e hv => ⟨p, hv, e _ _ hp⟩
theorem evp_ofL {xs : List V} (h : EvL te σ H xs) : EvP te σ H fun v H2 => ∃ p, v = .ref p ∧ H2 p = some (.lst xs) := fun H1 e Q q => h H1 e _ fun p H2 _ e2 hp => q _ H2 e2 ⟨p, rfl, hp⟩
theorem spv_beg {c : Addr} {n : Nat} {ps : List (Nat × Nat)} {a b : List Nat} (hc : CoAt H c n ps) (hv : Vc n ps) (ha : Wd n a) (hb : Wd n b) : SpV spBegins [.ref c, .str (tx a), .str (tx b)] H (.bl (beg (fr ps) a b)) :=
  fun H1 e Q q E => ⟨c, n, ps, a, b, rfl, hc.mono e, hv, ha, hb, fun H2 e2 => q H2 e2⟩
theorem spv_alike {x y : V} (h : (∃ a b, x = .str a ∧ y = .str b) ∨ (x = .non ∧ y = .non) ∨ ∃ a b, x = .bl a ∧ y = .bl b) {b : Bool} (hb : decide (x = y) = b) : SpV spAlike [x, y] H (.bl b) :=
  fun H1 e Q q E => ⟨x, y, rfl, h, fun H2 e2 => by rw [hb]; exact q H2 e2⟩
end
theorem cutS_any (l : List Nat) (i : Nat) : cutS (tx l) none (some (i : Int)) = tx (l.take i) := by
  by_cases h : i ≤ l.length
  · exact cutS_take l i h
  · unfold cutS
    rw [HT.sIx_none, HT.sIx_nat, tx_len, tx_list, List.drop_zero, Nat.min_eq_right (by omega), Nat.sub_zero, List.take_of_length_le (Nat.le_refl _), List.take_of_length_le (by omega)]
theorem ev_slAny {σ : L2.St} {H : Hp} {ta te : TE} {l : List Nat} {i : Nat} (h : Ev te σ H (.str (tx l))) (hi : Ev ta σ H (.int (i : Int))) (hz : l.length ≤ 100000) : Ev (tSl rSlS te tNoPart (tPart ta)) σ H (.str (tx (l.take i))) := fun H1 e Q q =>
  h H1 e _ fun H2 e2 => hi H2 (e.trans e2) _ fun H3 e3 => ⟨(i : Int), rfl, tx l, rfl, by rw [tx_len]; exact sz_of hz, by rw [cutS_any l i]; exact q H3 (e2.trans e3)⟩
abbrev lawN : List Str := ["_law_script", "_law_row", "_law_company_here", "_law_whole", "_law_one", "_law_other", "_law_both", "_law_top", "_law_over", "_law_least", "_law_found", "_law_kind_here", "_law_told"]
/-! ### the law from the bound on -/
abbrev t3V (i j k : Nat) : TA := tCons (tVar i) (tCons (tVar j) (tCons (tVar k) tNil))
def tEqN (K : PySem.W.Frag) (l : Nat) : TE := tOp (rEqD K) (tVar l) (tLst tNil)
def tNeN (K : PySem.W.Frag) (l : Nat) : TE := tOp (rNeD K) (tVar l) (tLst tNil)
def tail4 (K : PySem.W.Frag) : TS := tRet (tOrV (tEqN K 8) (tOp rEq (tCall spPut [] E0 (t3V 2 4 5)) (tOp (rIxL K) (tVar 9) (tC (.int 0)))))
def tail3 (K : PySem.W.Frag) : TS := tSeq (tIfS (tNot (tB (tCall spAlike [] E0 (tCons (tCall spCommute [] E0 (t3V 2 4 5)) (tCons (tNeN K 8) tNil))))) tNever tNext) (tail4 K)
def tail2 (K : PySem.W.Frag) : TS := tSeq (tIfS (tOr (tTest (tOp rNe (tEqN K 8) (tEqN K 9))) (tNot (tB (tCall spAlike [] E0 (tCons (tVar 10) (tCons (tIf (tTest (tNeN K 9)) (tOp (rIxL K) (tVar 9) (tC (.int 0))) (tC .non)) tNil)))))) tNever tNext) (tail3 K)
def tail1 (K : PySem.W.Frag) (C : Addr) : TS := tSeq (fun D σ H => tAsg (tCallS (spBound C) (WE (wOnly K (.ref C) (fun _ _ _ => tAsg (tC .non) (gName 10)) (fun _ _ _ _ => False) D)) (t3V 2 4 5)) (gName 10) D σ H) (tail2 K)
theorem law_tail {K : PySem.W.Frag} {C : Addr} (hex : PySem.W.exmOne K (.ref C) (.ref C) = some true) {D : Ends} {H : Hp} {c pw pb pt po pl : Addr} {s0 s1 : Option V} {n : Nat} {ps : List (Nat × Nat)} {W : List (List Nat)} {one other : List Nat} (hc : CoAt H c n ps) (hv : Vc n ps) (hW : Whole (fr ps) n W) (h1W : one ∈ W) (hoW : other ∈ W)
    (ho : H po = some (.lst (txs (over (fr ps) W one other)))) (hl : H pl = some (.lst (txs (least (fr ps) W one other)))) (k : ∀ H', D.rt (.bl true) H') :
    tail1 K C D [s0, s1, some (.ref c), some (.ref pw), some (.str (tx one)), some (.str (tx other)), some (.ref pb), some (.ref pt), some (.ref po), some (.ref pl), some .non, none, none] H := by
  have hof : ∀ k, k ∈ W → KdL (fr ps) n k := fun k h => ⟨((hW.iff k).mp h).1, ((hW.iff k).mp h).2⟩
  have hk1 := hof _ h1W
  have hk2 := hof _ hoW
  have sym := fr_sym ps
  have hn := hv.hi
  have smW : ∀ {ws : List (List Nat)}, (∀ k ∈ ws, k ∈ W) → ∀ k ∈ ws, ∀ x ∈ k, x < 128 := fun h k hk x hx => by have := (hof k (h k hk)).lt x hx; omega
  have subO : ∀ k ∈ over (fr ps) W one other, k ∈ W := fun k hk => (List.mem_filter.mp hk).1
  have subL : ∀ k ∈ least (fr ps) W one other, k ∈ W := fun k hk => subO k (List.mem_filter.mp hk).1
  have cmt := commute_iff sym hW h1W hoW
  -- behind the try
  have key : ∀ (fv : V) (H2 : Hp), Ex H H2 → fv = (if bnd (fr ps) one other = true then .str (tx (joined (fr ps) one other)) else .non) →
      tail2 K D [s0, s1, some (.ref c), some (.ref pw), some (.str (tx one)), some (.str (tx other)), some (.ref pb), some (.ref pt), some (.ref po), some (.ref pl), some fv, none, none] H2 := fun fv H2 e2 hf => by
    have ho2 := e2 _ _ ho
    have hl2 := e2 _ _ hl
    have c2 := hc.mono e2
    have eO : ∀ {H3 : Hp} {fv : V}, Ex H2 H3 → Ev (tEqN K 8) [s0, s1, some (.ref c), some (.ref pw), some (.str (tx one)), some (.str (tx other)), some (.ref pb), some (.ref pt), some (.ref po), some (.ref pl), some fv, none, none] H3 (.bl (over (fr ps) W one other).isEmpty) := fun e => ev_eqNil (evp_varL rfl (e _ _ ho2)) (smW subO)
    have nO : ∀ {H3 : Hp} {fv : V}, Ex H2 H3 → Ev (tNeN K 8) [s0, s1, some (.ref c), some (.ref pw), some (.str (tx one)), some (.str (tx other)), some (.ref pb), some (.ref pt), some (.ref po), some (.ref pl), some fv, none, none] H3 (.bl (!(over (fr ps) W one other).isEmpty)) := fun e => ev_neNil (evp_varL rfl (e _ _ ho2)) (smW subO)
    have eL : ∀ {H3 : Hp} {fv : V}, Ex H2 H3 → Ev (tEqN K 9) [s0, s1, some (.ref c), some (.ref pw), some (.str (tx one)), some (.str (tx other)), some (.ref pb), some (.ref pt), some (.ref po), some (.ref pl), some fv, none, none] H3 (.bl (least (fr ps) W one other).isEmpty) := fun e => ev_eqNil (evp_varL rfl (e _ _ hl2)) (smW subL)
    have nL : ∀ {H3 : Hp} {fv : V}, Ex H2 H3 → Ev (tNeN K 9) [s0, s1, some (.ref c), some (.ref pw), some (.str (tx one)), some (.str (tx other)), some (.ref pb), some (.ref pt), some (.ref po), some (.ref pl), some fv, none, none] H3 (.bl (!(least (fr ps) W one other).isEmpty)) := fun e => ev_neNil (evp_varL rfl (e _ _ hl2)) (smW subL)
    have cV : ∀ {H3 : Hp} {fv : V}, Ex H2 H3 → Ev (tCall spCommute [] E0 (t3V 2 4 5)) [s0, s1, some (.ref c), some (.ref pw), some (.str (tx one)), some (.str (tx other)), some (.ref pb), some (.ref pt), some (.ref po), some (.ref pl), some fv, none, none] H3 (.bl (joined (fr ps) one other == joined (fr ps) other one)) := fun e => ev_call0 (ea_cons (ev_var rfl) (ea_cons (ev_var rfl) (ea_cons (ev_var rfl) ea_nil))) fun H4 e4 Q q E => ⟨c, n, ps, one, other, rfl, c2.mono (e.trans e4), hv, hk1, hk2, fun H5 e5 => q H5 e5⟩
    have pV : ∀ {H3 : Hp} {fv : V}, Ex H2 H3 → Ev (tCall spPut [] E0 (t3V 2 4 5)) [s0, s1, some (.ref c), some (.ref pw), some (.str (tx one)), some (.str (tx other)), some (.ref pb), some (.ref pt), some (.ref po), some (.ref pl), some fv, none, none] H3 (.str (tx (joined (fr ps) one other))) := fun e => ev_call0 (ea_cons (ev_var rfl) (ea_cons (ev_var rfl) (ea_cons (ev_var rfl) ea_nil))) fun H4 e4 Q q E => ⟨c, n, ps, one, other, rfl, c2.mono (e.trans e4), hv, hk1, hk2, fun H5 e5 => q H5 e5⟩
    cases hbn : bnd (fr ps) one other with
    | true =>
      obtain ⟨hj, hl1⟩ := over_yes sym hW h1W hoW hbn
      rw [hbn, if_pos rfl] at hf
      subst hf
      have iO : (over (fr ps) W one other).isEmpty = false := by
        cases hz : over (fr ps) W one other with
        | nil => rw [hz] at hj; cases hj
        | cons x r => rfl
      have iL : (least (fr ps) W one other).isEmpty = false := by rw [hl1]; rfl
      rw [iO] at eO nO
      rw [iL] at eL nL
      rw [hl1] at hl2
      have jj : (joined (fr ps) one other == joined (fr ps) other one) = true := by rw [beq_iff_eq]; exact cmt.mpr hbn
      rw [jj] at cV
      have ix : ∀ {H3 : Hp} {fv : V}, Ex H2 H3 → Ev (tOp (rIxL K) (tVar 9) (tC (.int 0))) [s0, s1, some (.ref c), some (.ref pw), some (.str (tx one)), some (.str (tx other)), some (.ref pb), some (.ref pt), some (.ref po), some (.ref pl), some fv, none, none] H3 (.str (tx (joined (fr ps) one other))) := fun e => ev_op (ev_var rfl) ev_c (rv_ixL (sq_of (e _ _ hl2)) (atI_nat (j := 0) rfl))
      refine q_when (b := false) (et_or (a := false) (b := false) (et_test (ev_is (ev_op (eO (Ex.refl _)) (eL (Ex.refl _)) (rv_ne rfl)) (by rfl))) fun _ => et_not (a := true) (et_B (ev_call0 (ea_cons (ev_var rfl) (ea_cons (ev_if (b := true) (et_test (nL (Ex.refl _))) (fun _ => ix (Ex.refl _)) (fun z => nomatch z)) ea_nil)) (spv_alike (.inl ⟨_, _, rfl, rfl⟩) (decide_eq_true rfl))))) (fun z => nomatch z) fun _ H3 e3 => ?_
      refine q_when (b := false) (et_not (a := true) (et_B (ev_call0 (ea_cons (cV e3) (ea_cons (nO e3) ea_nil)) (spv_alike (.inr (.inr ⟨_, _, rfl, rfl⟩)) (decide_eq_true rfl))))) (fun z => nomatch z) fun _ H4 e4 => ?_
      exact s_ret (v := .bl true) (ev_orV (a := false) (b := true) (eO (e3.trans e4)) fun _ => ev_is (ev_op (pV (e3.trans e4)) (ix (e3.trans e4)) (rv_eq rfl)) (by rw [decide_eq_true rfl])) fun H5 _ => k H5
    | false =>
      obtain ⟨hl0, hl1⟩ := over_no sym hW h1W hoW hbn
      rw [hbn, if_neg Bool.false_ne_true] at hf
      subst hf
      have iO : (over (fr ps) W one other).isEmpty = true := by rw [hl0]; rfl
      have iL : (least (fr ps) W one other).isEmpty = true := by rw [hl1]; rfl
      rw [iO] at eO nO
      rw [iL] at eL nL
      have jj : (joined (fr ps) one other == joined (fr ps) other one) = false := by
        rw [beq_eq_false_iff_ne]
        intro z
        have := cmt.mp z
        rw [hbn] at this
        cases this
      rw [jj] at cV
      refine q_when (b := false) (et_or (a := false) (b := false) (et_test (ev_is (ev_op (eO (Ex.refl _)) (eL (Ex.refl _)) (rv_ne rfl)) (by rfl))) fun _ => et_not (a := true) (et_B (ev_call0 (vs := [.non, .non]) (ea_cons (ev_var rfl) (ea_cons (ev_if (b := false) (et_test (nL (Ex.refl _))) (fun z => nomatch z) (fun _ => ev_c)) ea_nil)) (spv_alike (.inr (.inl ⟨rfl, rfl⟩)) (decide_eq_true rfl))))) (fun z => nomatch z) fun _ H3 e3 => ?_
      refine q_when (b := false) (et_not (a := true) (et_B (ev_call0 (ea_cons (cV e3) (ea_cons (nO e3) ea_nil)) (spv_alike (.inr (.inr ⟨_, _, rfl, rfl⟩)) (decide_eq_true rfl))))) (fun z => nomatch z) fun _ H4 e4 => ?_
      exact s_ret (v := .bl true) (ev_orV (a := true) (b := true) (eO (e3.trans e4)) fun z => nomatch z) fun H5 _ => k H5
  refine ⟨_, rfl, _, rfl, _, rfl, c, n, ps, one, other, rfl, hc, hv, hk1, hk2, fun hb H2 e2 => ?_, fun hb H2 e2 => ?_⟩
  · exact key _ H2 e2 (by rw [hb, if_pos rfl])
  · exact ⟨true, hex, fun _ a ha => key _ H2 e2 (by rw [hb, if_neg Bool.false_ne_true]), fun z => nomatch z⟩
/-! ### the law behind the draws -/
def tTwo (i1 j1 i2 j2 : Nat) : TT := tAnd (tBeg i1 j1) (tBeg i2 j2)
def tAll (K : PySem.W.Frag) (l : Nat) (tt : TT) : TE := tLc (iList K (tVar l)) (gName 11) tt (tVar 11) [11]
def mid2 (K : PySem.W.Frag) (C : Addr) : TS := tSeq (tAsg (tAll K 3 (tTwo 4 11 5 11)) (gName 8)) (tSeq (tAsg (tAll K 8 (ttBest K 8 11 12)) (gName 9)) (tSeq (tAsg (tC .non) (gName 10)) (tail1 K C)))
def mid1 (K : PySem.W.Frag) (C : Addr) : TS := tSeq (tAsg (tAll K 3 (tTwo 11 4 11 5)) (gName 6)) (tSeq (tAsg (tAll K 6 (ttBest K 6 12 11)) (gName 7))
  (tSeq (tIfS (tOr (tTest (tOp rNe (tCB (rLenS K) (tCons (tVar 7) tNil)) (tC (.int 1)))) (tNot (tB (tCall spAlike [] E0 (tCons (tCall spCommon [] E0 (t3V 2 4 5)) (tCons (tOp (rIxL K) (tVar 7) (tC (.int 0))) tNil)))))) tNever tNext) (mid2 K C)))
theorem law_mid {K : PySem.W.Frag} {C : Addr} (hex : PySem.W.exmOne K (.ref C) (.ref C) = some true) {D : Ends} {H11 : Hp} {c pw : Addr} {s0 s1 : Option V} {n : Nat} {ps : List (Nat × Nat)} {W : List (List Nat)} {one other : List Nat} (cF : CoAt H11 c n ps) (hvc : Vc n ps) (hW : Whole (fr ps) n W) (hWl : W.length ≤ 10000) (h1W : one ∈ W) (hoW : other ∈ W)
    (wF : H11 pw = some (.lst (txs W))) (k : ∀ H', D.rt (.bl true) H') :
    mid1 K C D [s0, s1, some (.ref c), some (.ref pw), some (.str (tx one)), some (.str (tx other)), none, none, none, none, none, none, none] H11 := by
    have hof : ∀ k, k ∈ W → KdL (fr ps) n k := fun k h => ⟨((hW.iff k).mp h).1, ((hW.iff k).mp h).2⟩
    have hk1 := hof _ h1W
    have hk2' := hof _ hoW
    have hn := hvc.hi
    have sym := fr_sym ps
    have wdW : ∀ k, k ∈ W → Wd n k := fun k hk => (hof k hk).wd
    have smW : ∀ {ws : List (List Nat)}, (∀ k ∈ ws, k ∈ W) → ∀ k ∈ ws, ∀ x ∈ k, x < 128 := fun h k hk x hx => by have := (wdW k (h k hk)).lt x hx; omega
    have subB : ∀ k ∈ both (fr ps) W one other, k ∈ W := fun k hk => (List.mem_filter.mp hk).1
    have subO : ∀ k ∈ over (fr ps) W one other, k ∈ W := fun k hk => (List.mem_filter.mp hk).1
    have lenB : (both (fr ps) W one other).length ≤ W.length := List.length_filter_le _ _
    have lenO : (over (fr ps) W one other).length ≤ W.length := List.length_filter_le _ _
    refine q_asgL (el_lcF W (fun k => V.str (tx k)) (fun k => beg (fr ps) k one && beg (fr ps) k other) (fun k => V.str (tx k)) (evx_list (ev_var rfl) (sq_of wF)) (by omega) (fun x => rfl)
      (fun k H1 hk e => et_and (et_B (ev_call0 (ea_cons (ev_var rfl) (ea_cons (ev_var rfl) (ea_cons (ev_var rfl) ea_nil))) (spv_beg (cF.mono e) hvc (wdW k hk) hk1.wd))) fun _ => et_B (ev_call0 (ea_cons (ev_var rfl) (ea_cons (ev_var rfl) (ea_cons (ev_var rfl) ea_nil))) (spv_beg (cF.mono e) hvc (wdW k hk) hk2'.wd)))
      (fun k H1 hk hp e => ev_var rfl)) fun pb H12 _ e12 hb => ?_
    have hb : H12 pb = some (.lst (txs (both (fr ps) W one other))) := hb
    have c12 := cF.mono e12
    refine q_asgL (el_lcF (both (fr ps) W one other) (fun k => V.str (tx k)) (fun k => ((both (fr ps) W one other).filter (fun t => !beg (fr ps) t k)).isEmpty) (fun k => V.str (tx k)) (evx_list (ev_var rfl) (sq_of hb)) (by omega) (fun x => rfl)
      (fun k H1 hk e => et_test (ev_eqNil (ws := (both (fr ps) W one other).filter (fun t => !beg (fr ps) t k)) (evp_ofL (el_lcF (both (fr ps) W one other) (fun k => V.str (tx k)) (fun t => !beg (fr ps) t k) (fun k => V.str (tx k)) (evx_list (ev_var rfl) (sq_of (e _ _ hb))) (by omega) (fun x => rfl)
        (fun t H2 ht e2 => et_not (et_B (ev_call0 (ea_cons (ev_var rfl) (ea_cons (ev_var rfl) (ea_cons (ev_var rfl) ea_nil))) (spv_beg (c12.mono (e.trans e2)) hvc (wdW t (subB t ht)) (wdW k (subB k hk)))))) (fun t H2 ht hp e2 => ev_var rfl))) (smW fun t ht => subB t (List.mem_filter.mp ht).1)))
      (fun k H1 hk hp e => ev_var rfl)) fun pt H13 _ e13 ht => ?_
    have ht : H13 pt = some (.lst (txs (top (fr ps) W one other))) := ht
    rw [top_is sym hW h1W hoW] at ht
    have c13 := c12.mono e13
    refine q_when (b := false) (et_or (a := false) (b := false) (et_test (ev_is (ev_op (ev_len (ev_var rfl) (sq_of ht)) ev_c (rv_ne rfl)) (by rfl))) fun _ => et_not (a := true) (et_B (ev_call0 (vs := [.str (tx (cm (fr ps) one other)), .str (tx (cm (fr ps) one other))])
      (ea_cons (ev_call0 (ea_cons (ev_var rfl) (ea_cons (ev_var rfl) (ea_cons (ev_var rfl) ea_nil))) fun H1 e Q q E => ⟨c, n, ps, one, other, rfl, c13.mono e, hvc, hk1, hk2', fun H2 e2 => q H2 e2⟩) (ea_cons (ev_op (ev_var rfl) ev_c (rv_ixL (sq_of ht) (atI_nat (j := 0) rfl))) ea_nil)) (spv_alike (.inl ⟨_, _, rfl, rfl⟩) (decide_eq_true rfl))))) (fun z => nomatch z) fun _ H14 e14 => ?_
    have w14 := e14 _ _ (e13 _ _ (e12 _ _ wF))
    have c14 := c13.mono e14
    refine q_asgL (el_lcF W (fun k => V.str (tx k)) (fun k => beg (fr ps) one k && beg (fr ps) other k) (fun k => V.str (tx k)) (evx_list (ev_var rfl) (sq_of w14)) (by omega) (fun x => rfl)
      (fun k H1 hk e => et_and (et_B (ev_call0 (ea_cons (ev_var rfl) (ea_cons (ev_var rfl) (ea_cons (ev_var rfl) ea_nil))) (spv_beg (c14.mono e) hvc hk1.wd (wdW k hk)))) fun _ => et_B (ev_call0 (ea_cons (ev_var rfl) (ea_cons (ev_var rfl) (ea_cons (ev_var rfl) ea_nil))) (spv_beg (c14.mono e) hvc hk2'.wd (wdW k hk))))
      (fun k H1 hk hp e => ev_var rfl)) fun po H15 _ e15 ho => ?_
    have ho : H15 po = some (.lst (txs (over (fr ps) W one other))) := ho
    have c15 := c14.mono e15
    refine q_asgL (el_lcF (over (fr ps) W one other) (fun k => V.str (tx k)) (fun k => ((over (fr ps) W one other).filter (fun t => !beg (fr ps) k t)).isEmpty) (fun k => V.str (tx k)) (evx_list (ev_var rfl) (sq_of ho)) (by omega) (fun x => rfl)
      (fun k H1 hk e => et_test (ev_eqNil (ws := (over (fr ps) W one other).filter (fun t => !beg (fr ps) k t)) (evp_ofL (el_lcF (over (fr ps) W one other) (fun k => V.str (tx k)) (fun t => !beg (fr ps) k t) (fun k => V.str (tx k)) (evx_list (ev_var rfl) (sq_of (e _ _ ho))) (by omega) (fun x => rfl)
        (fun t H2 ht e2 => et_not (et_B (ev_call0 (ea_cons (ev_var rfl) (ea_cons (ev_var rfl) (ea_cons (ev_var rfl) ea_nil))) (spv_beg (c15.mono (e.trans e2)) hvc (wdW k (subO k hk)) (wdW t (subO t ht)))))) (fun t H2 ht hp e2 => ev_var rfl))) (smW fun t ht => subO t (List.mem_filter.mp ht).1)))
      (fun k H1 hk hp e => ev_var rfl)) fun pl H16 _ e16 hle => ?_
    have hle : H16 pl = some (.lst (txs (least (fr ps) W one other))) := hle
    have subL : ∀ k ∈ least (fr ps) W one other, k ∈ W := fun k hk => subO k (List.mem_filter.mp hk).1
    have ho16 := e16 _ _ ho
    have c16 := c15.mono e16
    refine q_asg ev_c fun H17 e17 => ?_
    exact law_tail hex (c16.mono e17) hvc hW h1W hoW (e17 _ _ ho16) (e17 _ _ hle) k
end Ow

namespace Ow
open PySem PySem.Spec PyProof.Rows L2 Evl
section
variable {P : Program} {w : World} {K : PySem.W.Frag} {mg : Str → Option Value} {base : Heap} (T : Txt K mg)
variable (GCo : FnOk P w K mg base CX0 2 T.l_company.f T.l_company.d ["_law_row", "_law_most"] (spCompany K)) (GKs : FnOk P w K mg base CX0 4 T.l_kinds.f T.l_kinds.d ["_law_company_here"] spKinds)
  (GDk : FnOk P w K mg base CX0 3 T.l_drawn_kind.f T.l_drawn_kind.d ["_law_row", "_law_company_here"] (spDrawn K)) (GPi : FnOk P w K mg base CX0 2 T.l_pick.f T.l_pick.d ["_law_row", "_law_things"] (spPick K))
  (GK : FnOk P w K mg base CX0 2 T.l_kind.f T.l_kind.d ["_law_company_here", "_law_word_here"] spKind) (GB : FnOk P w K mg base CX0 3 T.l_begins.f T.l_begins.d ["_law_company_here", "_law_one", "_law_other"] spBegins)
  (GA : FnOk P w K mg base CX0 1 T.l_alike.f T.l_alike.d ["_law_found", "_law_due"] spAlike) (GCm : FnOk P w K mg base CX0 5 T.common.f T.common.d ["company", "one", "other"] spCommon)
  (GBd : FnOk P w K mg base (L2.CX P w) 5 T.bound.f T.bound.d ["company", "one", "other"] (spBound T.nbf.c)) (GDc : FnOk P w K mg base CX0 5 T.do_commute.f T.do_commute.d ["company", "one", "other"] spCommute)
  (GPu : FnOk P w K mg base CX0 5 T.put.f T.put.d ["company", "one", "other"] spPut)
include GCo GKs GDk GPi GK GB GA GCm GBd GDc GPu
theorem ok_law : FnOk P w K mg base CX0 6 T.law.f T.law.d ["_law_script"] (spLaw K) := by
  refine T.law.F.ok sc_law (fun vs H Q E h => ?_) (fun cdv A outer s H vs Q E hr h => ?_)
  · obtain ⟨a, ns, rfl, _⟩ := h
    rfl
  · obtain ⟨a, ns, rfl, hs, hl, k⟩ := h
    have r2 := hr.mono (show 2 ≤ 5 by decide)
    have r3 := hr.mono (show 3 ≤ 5 by decide)
    have r1 := hr.mono (show 1 ≤ 5 by decide)
    refine ⟨_, pss_cons (ps_set (i := 1) sc_law.nd rfl (.inl rfl) (pe_lst (pa_cons (pv 0) (pa_cons pe_int (pa_cons pe_int (pa_cons pe_int pa_nil))))))
      (pss_cons (ps_set (i := 2) sc_law.nd rfl (.inr rfl) (pe_call GCo r2 (by rfl) T.l_company.g T.l_company.F.kp T.l_company.b .nil pass0 (pa_cons (pv 1) (pa_cons pe_int pa_nil))))
      (pss_cons (ps_asg (pe_tup (pa_cons (pe_call GKs (hr.mono (by decide)) (by rfl) T.l_kinds.g T.l_kinds.F.kp T.l_kinds.b .nil pass0 (pa_cons (pv 2) pa_nil)) (pa_cons (pe_call GDk r3 (by rfl) T.l_drawn_kind.g T.l_drawn_kind.F.kp T.l_drawn_kind.b .nil pass0 (pa_cons (pv 1) (pa_cons (pv 2) pa_nil))) pa_nil)))
          (pg_tup rfl (pgs_cons (pg_name (i := 3) sc_law.nd rfl (.inl rfl)) (pgs_cons (pg_name (i := 4) sc_law.nd rfl (.inr rfl)) pgs_nil))))
      (pss_cons (ps_set (i := 5) sc_law.nd rfl (.inr rfl) (pe_call GPi r2 (by rfl) T.l_pick.g T.l_pick.F.kp T.l_pick.b .nil pass0 (pa_cons (pv 1) (pa_cons (pe_lst
          (pa_cons (pe_call GDk r3 (by rfl) T.l_drawn_kind.g T.l_drawn_kind.F.kp T.l_drawn_kind.b .nil pass0 (pa_cons (pv 1) (pa_cons (pv 2) pa_nil)))
          (pa_cons (pe_call GK r2 (by rfl) T.l_kind.g T.l_kind.F.kp T.l_kind.b .nil pass0 (pa_cons (pv 2) (pa_cons (pe_op op_add_str (pe_slice sl_str (pv 4) po_none (po_some pe_int)) (pe_slice sl_str pe_str po_none (po_some (pe_ix ix_tup (pv 2) pe_int (fun _ _ => rfl))))) pa_nil)))
          (pa_cons (pe_call GPi r2 (by rfl) T.l_pick.g T.l_pick.F.kp T.l_pick.b .nil pass0 (pa_cons (pv 1) (pa_cons (pv 3) pa_nil))) pa_nil)))) pa_nil))))
      (pss_cons (ps_set (i := 6) sc_law.nd rfl (.inr rfl) (pe_lc (own := [("_law_kind_here", 11)]) (g := gName 11) rfl sc_law.nd (pi_list (pv 3)) (blkOk_by (N := lawN) (sc := defScope s_law) (by decide +kernel)) (fun _ _ _ _ _ => pg_name (i := 11) sc_law.nd rfl (.inl rfl))
          (fun _ _ _ _ _ => pts_one (PW.pt (pw_and (pt_val (pe_call GB r3 (by rfl) T.l_begins.g T.l_begins.F.kp T.l_begins.b .nil pass0 (pa_cons (pv 2) (pa_cons (pv 11) (pa_cons (pv 4) pa_nil))))) (pw_and1 (pt_val (pe_call GB r3 (by rfl) T.l_begins.g T.l_begins.F.kp T.l_begins.b .nil pass0 (pa_cons (pv 2) (pa_cons (pv 11) (pa_cons (pv 5) pa_nil))))))))) (fun _ _ _ _ _ => pv 11)))
      (pss_cons (ps_setLc (i := 7) (own := [("_law_kind_here", 11)]) (g := gName 11) (tt := ttBest K 6 12 11) rfl sc_law.nd rfl rfl (sw_true rfl rfl rfl (by decide +kernel)) (pi_list (pv 6)) (blkOk_by (N := lawN) (sc := defScope s_law) (by decide +kernel)) (fun _ _ _ _ _ => pg_name (i := 11) sc_law.nd rfl (.inr rfl))
          (fun _ _ _ _ _ => pts_one (pt_cmpR (op_eqD (room64 hr)) (pe_lc (own := [("_law_told", 12)]) (g := gName 12) (wi := iList K (tVar 6)) rfl sc_law.nd (pi_list (pv 6)) (blkOk_by (N := lawN) (sc := relS scTop (defScope s_law)) (by decide +kernel)) (fun _ _ _ _ _ => pg_name (i := 12) sc_law.nd rfl (.inl rfl))
            (fun _ _ _ _ _ => pts_one (pt_not (pt_val (pe_call GB r3 (by rfl) T.l_begins.g T.l_begins.F.kp T.l_begins.b .nil pass0 (pa_cons (pv 2) (pa_cons (pv 12) (pa_cons (pv 11) pa_nil))))))) (fun _ _ _ _ _ => pv 12)) (pe_lst pa_nil) (nomark _))) (fun _ _ _ _ _ => pv 11))
      (pss_cons (ps_if (PW.pt (pw_or (pt_cmpR op_ne (pe_callB call_len_seq (by rfl) T.z_len PySem.boot_len (pa_cons (pv 7) pa_nil)) pe_int (nomark _)) (pw_or1 (pt_not (pt_val (pe_call GA r1 (by rfl) T.l_alike.g T.l_alike.F.kp T.l_alike.b .nil pass0 (pa_cons (pe_call GCm hr (by rfl) T.common.g T.common.F.kp T.common.b .nil pass0 (pa_cons (pv 2) (pa_cons (pv 4) (pa_cons (pv 5) pa_nil)))) (pa_cons (pe_ix ix_list (pv 7) pe_int (fun _ _ => rfl)) pa_nil)))))))) pss_never pss_nil)
      (pss_cons (ps_set (i := 8) sc_law.nd rfl (.inr rfl) (pe_lc (own := [("_law_kind_here", 11)]) (g := gName 11) rfl sc_law.nd (pi_list (pv 3)) (blkOk_by (N := lawN) (sc := defScope s_law) (by decide +kernel)) (fun _ _ _ _ _ => pg_name (i := 11) sc_law.nd rfl (.inl rfl))
          (fun _ _ _ _ _ => pts_one (PW.pt (pw_and (pt_val (pe_call GB r3 (by rfl) T.l_begins.g T.l_begins.F.kp T.l_begins.b .nil pass0 (pa_cons (pv 2) (pa_cons (pv 4) (pa_cons (pv 11) pa_nil))))) (pw_and1 (pt_val (pe_call GB r3 (by rfl) T.l_begins.g T.l_begins.F.kp T.l_begins.b .nil pass0 (pa_cons (pv 2) (pa_cons (pv 5) (pa_cons (pv 11) pa_nil))))))))) (fun _ _ _ _ _ => pv 11)))
      (pss_cons (ps_setLc (i := 9) (own := [("_law_kind_here", 11)]) (g := gName 11) (tt := ttBest K 8 11 12) rfl sc_law.nd rfl rfl (sw_true rfl rfl rfl (by decide +kernel)) (pi_list (pv 8)) (blkOk_by (N := lawN) (sc := defScope s_law) (by decide +kernel)) (fun _ _ _ _ _ => pg_name (i := 11) sc_law.nd rfl (.inr rfl))
          (fun _ _ _ _ _ => pts_one (pt_cmpR (op_eqD (room64 hr)) (pe_lc (own := [("_law_told", 12)]) (g := gName 12) (wi := iList K (tVar 8)) rfl sc_law.nd (pi_list (pv 8)) (blkOk_by (N := lawN) (sc := relS scLeast (defScope s_law)) (by decide +kernel)) (fun _ _ _ _ _ => pg_name (i := 12) sc_law.nd rfl (.inl rfl))
            (fun _ _ _ _ _ => pts_one (pt_not (pt_val (pe_call GB r3 (by rfl) T.l_begins.g T.l_begins.F.kp T.l_begins.b .nil pass0 (pa_cons (pv 2) (pa_cons (pv 11) (pa_cons (pv 12) pa_nil))))))) (fun _ _ _ _ _ => pv 12)) (pe_lst pa_nil) (nomark _))) (fun _ _ _ _ _ => pv 11))
      (pss_cons (ps_set (i := 10) sc_law.nd rfl (.inl rfl) pe_non)
      (pss_cons (ps_try_only (tb := fun W => tAsg (tCallS (spBound T.nbf.c) (WE W) (tCons (tVar 2) (tCons (tVar 4) (tCons (tVar 5) tNil)))) (gName 10)) (ts := fun _ _ _ => tAsg (tC .non) (gName 10)) (Wout := fun _ _ _ _ => False) rfl rfl ⟨rfl, by decide, .inl T.nbf.g⟩ takes0
          (fun W pn xe tk _ => pss_one (ps_set (i := 10) sc_law.nd rfl (.inl rfl) (pe_callS GBd hr (by rfl) T.bound.g T.bound.F.kp T.bound.b (fun σ => passAt tk σ) (by exact (pa_cons (pv 2) (pa_cons (pv 4) (pa_cons (pv 5) pa_nil)))))))
          (fun _ _ _ _ _ _ _ => pss_one (ps_set (i := 10) sc_law.nd rfl (.inl rfl) pe_non)))
      (pss_cons (ps_if (PW.pt (pw_or (pt_cmpR op_ne (pe_cmpR (op_eqD (room64 hr)) (pv 8) (pe_lst pa_nil) (nomark _)) (pe_cmpR (op_eqD (room64 hr)) (pv 9) (pe_lst pa_nil) (nomark _)) (nomark _))
          (pw_or1 (pt_not (pt_val (pe_call GA r1 (by rfl) T.l_alike.g T.l_alike.F.kp T.l_alike.b .nil pass0 (pa_cons (pv 10) (pa_cons (pe_ifExp (pt_cmpR (op_neD (room64 hr)) (pv 9) (pe_lst pa_nil) (nomark _)) (pe_ix ix_list (pv 9) pe_int (fun _ _ => rfl)) pe_non) pa_nil)))))))) pss_never pss_nil)
      (pss_cons (ps_if (pt_not (pt_val (pe_call GA r1 (by rfl) T.l_alike.g T.l_alike.F.kp T.l_alike.b .nil pass0 (pa_cons (pe_call GDc hr (by rfl) T.do_commute.g T.do_commute.F.kp T.do_commute.b .nil pass0 (pa_cons (pv 2) (pa_cons (pv 4) (pa_cons (pv 5) pa_nil)))) (pa_cons (pe_cmpR (op_neD (room64 hr)) (pv 8) (pe_lst pa_nil) (nomark _)) pa_nil))))) pss_never pss_nil)
      (pss_one (ps_ret (pe_or (pe_cmpR (op_eqD (room64 hr)) (pv 8) (pe_lst pa_nil) (nomark _)) (pe_one (pe_cmpR op_eq (pe_call GPu hr (by rfl) T.put.g T.put.F.kp T.put.b .nil pass0 (pa_cons (pv 2) (pa_cons (pv 4) (pa_cons (pv 5) pa_nil)))) (pe_ix ix_list (pv 9) pe_int (fun _ _ => rfl)) (nomark _))))))))))))))))))
      , ?_⟩
    refine q_asgL (el_lst (ea_cons (ev_var rfl) (ea_cons ev_c (ea_cons ev_c (ea_cons ev_c ea_nil)))) (show (4 : Nat) ≤ 100000 by decide)) fun r H1 hrn e1 h1 => ?_
    have eB : Ex H (cut r H1) := fun b o hb => by
      unfold Ow.cut
      rw [if_neg (ne_of_none hb hrn)]
      exact e1 _ _ hb
    have R1 : Row K (a, ns) r H1 := ⟨ex_l eB hs, hl, 0, 7911, 0, h1, by decide, by decide, by decide, by decide⟩
    refine ⟨_, rfl, (a, ns), r, rfl, R1, fun v H2 e2 R2 ⟨c, n, ps, hv, hcr, hc, hvc⟩ => ?_⟩
    subst hv
    have hn := hvc.hi
    have hlo := hvc.lo
    refine ⟨_, rfl, c, n, ps, rfl, hc.mono cut_sub, hvc, fun v H3 e3 ⟨pw, W, hv, hpw, hW, hWl⟩ => ?_⟩
    subst hv
    have R3 := R2.mono e3
    refine ⟨_, rfl, _, rfl, (a, ns), r, c, n, ps, rfl, R3, hc.mono (toR e3).cut, hvc, fun v H4 e4 R4 ⟨one, hv, hk1⟩ => ?_⟩
    subst hv
    refine ⟨show (2 : Nat) ≤ sizeLine by decide, fun p hp => ⟨p, _, rfl, st_of upd_same, rfl, .ref pw, [.str (tx one)], rfl, .str (tx one), [], rfl, rfl, ?_⟩⟩
    have R5 : Row K (a, ns) r (upd H4 p (.tup [.ref pw, .str (tx one)])) := R4.mono (Ex.new hp)
    have e5 : ExR r H2 (upd H4 p (.tup [.ref pw, .str (tx one)])) := ((toR e3).trans e4).trans (toR (Ex.new hp))
    have npw : pw ≠ r := fun z => by
      obtain ⟨_, _, _, h0, _⟩ := R3.ex
      rw [z] at hpw
      rw [hpw] at h0
      have h0 := HO.lst.inj (Option.some.inj h0)
      cases W with
      | nil => cases h0
      | cons k t => exact absurd (List.cons.inj h0).1 (fun z => nomatch z)
    have w5 : (upd H4 p (.tup [.ref pw, .str (tx one)])) pw = some (.lst (txs W)) := Ex.new hp _ _ (e4 _ _ npw hpw)
    generalize upd H4 p (.tup [.ref pw, .str (tx one)]) = H5 at R5 e5 w5
    have hin : ∀ k, KdL (fr ps) n k → k ∈ W := fun k h => (hW.iff k).mpr ⟨h.kd, h.lt⟩
    have hof : ∀ k, k ∈ W → KdL (fr ps) n k := fun k h => ⟨((hW.iff k).mp h).1, ((hW.iff k).mp h).2⟩
    have Wne : W ≠ [] := fun z => by
      have : ([] : List Nat) ∈ W := (hW.iff []).mpr ⟨⟨List.nodup_nil, rfl⟩, fun x h => by cases h⟩
      rw [z] at this
      cases this
    have l1 : one.length ≤ 4 := by have := Lt.nodup_len hk1.wd; omega
    -- the other one
    refine ⟨_, rfl, ?_⟩
    refine ⟨_, rfl, _, rfl, (a, ns), r, c, n, ps, rfl, R5, hc.mono e5.cut, hvc, fun v H6 e6 R6 ⟨k1, hv, hkk1⟩ => ?_⟩
    subst hv
    have c6 : CoAt H6 c n ps := (hc.mono (e5.trans e6).cut).mono cut_sub
    obtain ⟨q, rs, c61, _, _, _⟩ := c6.ex
    have word : Lt n (one.take 2 ++ ([97, 98] : List Nat).take n) := fun x hx => by
      rcases List.mem_append.mp hx with hx | hx
      · exact hk1.lt x (List.mem_of_mem_take hx)
      · have h12 : n = 1 ∨ 2 ≤ n := by omega
        rcases h12 with rfl | h2
        · have : x = 97 := by simpa using hx
          omega
        · have : x = 97 ∨ x = 98 := by simpa using List.mem_of_mem_take hx
          omega
    refine ⟨_, rfl, ?_⟩
    refine ev_addS (a := one.take 2) (b := ([97, 98] : List Nat).take n) (ev_slAny (i := 2) (ev_var rfl) ev_c (by omega)) (ev_slAny (i := n) (by rw [← tx_ab]; exact ev_c) (ev_op (ev_var rfl) ev_c (rv_ixT (st_of c61) (atI_nat (j := 0) rfl))) (by decide)) (by simp; omega) H6 (Ex.refl H6) _ fun H7 e7 => ?_
    refine ⟨c, n, ps, one.take 2 ++ ([97, 98] : List Nat).take n, rfl, c6.mono e7, hvc, word, by simp; omega, fun H8 e8 => ?_⟩
    have hkk2 : KdL (fr ps) n (kd (fr ps) (one.take 2 ++ ([97, 98] : List Nat).take n)) := ⟨kd_kd (fr_sym ps) _, fun x hx => word x (kd_mem.mp hx)⟩
    generalize kd (fr ps) (one.take 2 ++ ([97, 98] : List Nat).take n) = k2 at hkk2
    have R8 := (R6.mono e7).mono e8
    have e58 : ExR r H5 H8 := e6.trans ((toR e7).trans (toR e8))
    have w8 : H8 pw = some (.lst (txs W)) := e58 _ _ npw w5
    have w8c : cut r H8 pw = some (.lst (txs W)) := by
      unfold Ow.cut
      rw [if_neg npw]
      exact w8
    refine ⟨_, rfl, _, rfl, (a, ns), r, pw, txs W, rfl, R8, w8c, fun z => Wne (List.map_eq_nil_iff.mp z), by unfold txs; rw [List.length_map]; omega, fun v H9 e9 R9 hv => ?_⟩
    obtain ⟨k3, hk3, hv3⟩ := List.mem_map.mp hv
    subst hv3
    refine ⟨show (3 : Nat) ≤ sizeLine by decide, fun p2 hp2 => ?_⟩
    have R10 : Row K (a, ns) r (upd H9 p2 (.lst [.str (tx k1), .str (tx k2), .str (tx k3)])) := R9.mono (Ex.new hp2)
    have np2 := R9.ne hp2
    have p2c : cut r (upd H9 p2 (.lst [.str (tx k1), .str (tx k2), .str (tx k3)])) p2 = some (.lst (txs [k1, k2, k3])) := by
      unfold Ow.cut
      rw [if_neg np2]
      exact upd_same
    refine ⟨(a, ns), r, p2, _, rfl, R10, p2c, (by intro z; cases z), by simp [txs], fun v H11 e11 R11 hv => ?_⟩
    obtain ⟨other, ho, hv4⟩ := List.mem_map.mp hv
    subst hv4
    have hoW : other ∈ W := by
      rcases List.mem_cons.mp ho with rfl | ho
      · exact hin _ hkk1
      · rcases List.mem_cons.mp ho with rfl | ho
        · exact hin _ hkk2
        · rw [List.mem_singleton.mp ho]
          exact hk3
    have h1W : one ∈ W := hin _ hk1
    have e511 : ExR r H5 H11 := e58.trans ((e9.trans (toR (Ex.new hp2))).trans e11)
    have wF : H11 pw = some (.lst (txs W)) := e511 _ _ npw w5
    have cF : CoAt H11 c n ps := (hc.mono (e5.trans e511).cut).mono cut_sub
    have hk2' := hof _ hoW
    clear e511 e11 R11 p2c np2 R10 R9 e9 w8c w8 e58 R8 e8 e7 c61 c6 R6 e6
    -- behind the draws nothing is drawn
    exact law_mid (exm_self T.nbf.b T.nbf.i T.nbf.t T.nbf.s) cF hvc hW hWl h1W hoW wF fun H' => k H'
end
end Ow

namespace Ow
open PySem PySem.Spec PyProof.Rows L2 Evl
/-! ### readings that tell how many tokens are out -/
abbrev En := Nat → Ends
abbrev TSn := En → Nat → L2.St → Hp → Prop
abbrev TEn := Nat → L2.St → Hp → VK → Prop
def SPn (X : Cx) (pins : List (Addr × Obj)) (D : En) (f : Flow) (s' : Shared) : Prop := ∃ n, n ≤ s'.toks ∧ SP X pins (D n) f s'
def PEn (X : Cx) (e : Expr) (t : TEn) : Prop := ∀ (pins : List (Addr × Obj)) (s : Shared) (σ : L2.St) (H : Hp) (Q : VK) (n : Nat), n ≤ s.toks → Inv X pins σ H s → t n σ H Q →
  wpAny (model X.prog X.w) X.A (eval e X.env) (EP X pins σ Q) X.xe s
/-- behind it k tokens are out -/
def PEk (X : Cx) (k : Nat) (e : Expr) (t : TEn) : Prop := ∀ (pins : List (Addr × Obj)) (s : Shared) (σ : L2.St) (H : Hp) (Q : VK) (n : Nat), n ≤ s.toks → Inv X pins σ H s → t n σ H Q →
  wpAny (model X.prog X.w) X.A (eval e X.env) (fun u s' => k ≤ s'.toks ∧ EP X pins σ Q u s') X.xe s
def PSn (X : Cx) (st : Stmt) (t : TSn) : Prop := ∀ (pins : List (Addr × Obj)) (s : Shared) (σ : L2.St) (H : Hp) (D : En) (n : Nat), n ≤ s.toks → Inv X pins σ H s → t D n σ H →
  wpAny (model X.prog X.w) X.A (exec st X.env) (SPn X pins D) X.xe s
def PSsn (X : Cx) (b : List Stmt) (t : TSn) : Prop := ∀ (pins : List (Addr × Obj)) (s : Shared) (σ : L2.St) (H : Hp) (D : En) (n : Nat), n ≤ s.toks → Inv X pins σ H s → t D n σ H →
  wpAny (model X.prog X.w) X.A (execs b X.env) (SPn X pins D) X.xe s
/-- a plain reading among these -/
def up (t : TS) : TSn := fun D n σ H => t (D n) σ H
def nSeq (t u : TSn) : TSn := fun D n σ H => t (fun m => { D m with nx := fun σ' H' => u D m σ' H' }) n σ H
section
variable {X : Cx} {st : Stmt} {rest : List Stmt}
theorem psn_up {t : TS} (h : PS X st t) : PSn X st (up t) := fun pins s σ H D n h0 I q =>
  wpAny_mono (PySem.wpAny_toks (h.run pins s σ H (D n) I q)) (fun f s1 z => ⟨n, Nat.le_trans h0 z.1, z.2⟩) fun _ _ z => z.2
theorem pssn_up {t : TS} (h : PSs X rest t) : PSsn X rest (up t) := fun pins s σ H D n h0 I q =>
  wpAny_mono (PySem.wpAny_toks (h.run pins s σ H (D n) I q)) (fun f s1 z => ⟨n, Nat.le_trans h0 z.1, z.2⟩) fun _ _ z => z.2
theorem pssn_cons {t u : TSn} (h1 : PSn X st t) (h2 : PSsn X rest u) : PSsn X (st :: rest) (nSeq t u) := fun pins s σ H D n h0 I q => by
  refine wpAny_execs_cons (thn (h1 pins s σ H _ n h0 I q) fun f s1 ⟨m, hm, z⟩ => ?_)
  cases f with
  | next =>
    obtain ⟨σ', H', I', z⟩ := z
    exact h2 pins s1 σ' H' D m hm I' z
  | ret v => exact ⟨m, hm, z⟩
  | brk => exact ⟨m, hm, z⟩
  | cont => exact ⟨m, hm, z⟩
theorem pssn_nil : PSsn X [] (fun D n σ H => (D n).nx σ H) := fun pins s σ H D n h0 I q => wpAny_execs_nil ⟨n, h0, σ, H, I, q⟩
theorem pssn_one {t : TSn} (h : PSn X st t) : PSsn X [st] t := fun pins s σ H D n h0 I q => by
  refine wpAny_execs_cons (thn (h pins s σ H _ n h0 I q) fun f s1 ⟨m, hm, z⟩ => ?_)
  cases f with
  | next => exact wpAny_execs_nil ⟨m, hm, z⟩
  | ret v => exact ⟨m, hm, z⟩
  | brk => exact ⟨m, hm, z⟩
  | cont => exact ⟨m, hm, z⟩
/-- down again -/
theorem pss_of {b : List Stmt} {t : TSn} (h : PSsn X b t) : PSs X b (fun D σ H => t (fun _ => D) 0 σ H) := ⟨fun pins s σ H D I q =>
  thn (h pins s σ H _ 0 (Nat.zero_le _) I q) fun f s1 ⟨_, _, z⟩ => z⟩
theorem psn_if {c : Expr} {a b : List Stmt} {pos : Pos} {tc : TT} {t u : TSn} (hc : PT X c tc) (ha : PSsn X a t) (hb : PSsn X b u) :
    PSn X (.If c a b pos) (fun D n σ H => tc σ H fun d H1 => if d = true then t D n σ H1 else u D n σ H1) := fun pins s σ H D n h0 I q => by
  refine wpAny_If (wpAny_mono (PySem.wpAny_toks (hc.run pins s σ H _ I q)) (fun d s1 z => ?_) fun _ _ z => z.2)
  obtain ⟨hk, H1, I1, q1⟩ := z
  have h1 := Nat.le_trans h0 hk
  cases d with
  | true => exact ha pins s1 σ H1 D n h1 I1 q1
  | false => exact hb pins s1 σ H1 D n h1 I1 q1
theorem pek_0 {e : Expr} {t : TEn} (h : PEn X e t) : PEk X 0 e t := fun pins s σ H Q n h0 I q => thn (h pins s σ H Q n h0 I q) fun _ _ z => ⟨Nat.zero_le _, z⟩
theorem pek_str {x : Str} {j : Nat} {pos : Pos} : PEk X 1 (.Constant (.str x) j pos) (fun _ _ H Q => Q (.str x) H) := fun pins s σ H Q n h0 I q =>
  Calls.Constant_str ⟨Nat.succ_le_succ (Nat.zero_le _), .str x, H, I.tok _, ⟨_, rfl⟩, q⟩
/-- a, b = x, y by way of a tuple -/
def nAsg2 (k : Nat) (t1 : TE) (t2 : TEn) (g : TG) : TSn := fun D n σ H => t1 σ H fun v1 H1 => t2 n σ H1 fun v2 H2 => ∀ a, H2 a = none → g (.ref a) σ (upd H2 a (.tup [v1, v2])) fun σ2 H3 => ∀ n', n ≤ n' → k ≤ n' → (D n').nx σ2 H3
theorem psn_asg2 {tg e1 e2 : Expr} {k x1 : Nat} {t1 : TE} {t2 : TEn} {g : TG} {pt pos : Pos} (h1 : PE X e1 t1) (h2 : PEk X k e2 t2) (hg : PG X tg g)
    (hs1 : starEach [e1, e2] X.env = (false, eval e1 X.env) :: starEach [e2] X.env := by rfl) (hs2 : starEach [e2] X.env = (false, eval e2 X.env) :: starEach [] X.env := by rfl)
    (hs : swapsWithSole [tg] (.Tuple [e1, e2] x1 pt) pos.line X.env = pure false := by rfl) (hw : swappedStores [tg] (.Tuple [e1, e2] x1 pt) X.env = pure none := by rfl)
    (ht : (assignEach [tg] X.env).map (·.2) = [assign tg X.env] := by rfl) : PSn X (.Assign [tg] (.Tuple [e1, e2] x1 pt) pos) (nAsg2 k t1 t2 g) := by
  intro pins s σ H D n h0 I h
  refine wpAny_Assign_stores (thn (Q := fun v s1 => ∃ (a : Addr) (v1 v2 : V) (H2 : Hp), v = Value.ref a ∧ n ≤ s1.toks ∧ k ≤ s1.toks ∧ Inv X pins σ (upd H2 a (.tup [v1, v2])) s1 ∧ H2 a = none ∧ (∀ a, H2 a = none → g (.ref a) σ (upd H2 a (.tup [v1, v2])) fun σ2 H3 => ∀ n', n ≤ n' → k ≤ n' → (D n').nx σ2 H3)) ?_ fun v s1 ⟨a, v1, v2, H2, e, n1, k1, I1, f1, q⟩ => ?_) hs hw
  · refine wpAny_Tuple_spliced ?_
    rw [hs1]
    show wpAny _ _ (spliced ((false, eval e1 X.env) :: backTo pt (starEach [e2] X.env))) _ _ s
    refine Calls.spliced_cons (wpAny_mono (PySem.wpAny_toks_of h0 (h1.run pins s σ H _ I h)) (fun u1 s1 z => ?_) fun _ _ z => z.2)
    obtain ⟨k1, v1, H1, I1, r1, q1⟩ := z
    rw [hs2]
    show wpAny _ _ (spliced ((false, eval e2 X.env) :: backTo pt (starEach [] X.env))) _ _ s1
    refine Calls.spliced_cons (wpAny_mono (PySem.wpAny_toks_of k1 (h2 pins s1 σ H1 _ n k1 I1 q1)) (fun u2 s2 z => ?_) fun _ _ z => z.2)
    obtain ⟨k2, kk, v2, H2, I2, r2, q2⟩ := z
    refine Calls.spliced_nil ⟨show (2 : Nat) ≤ sizeLine by decide, ?_⟩
    have hf : H2 s2.heap.objs.size = none := I2.hok.fresh (Nat.le_refl _)
    refine ⟨s2.heap.objs.size, v1, v2, H2, rfl, k2, kk, I2.laid (t' := s2.toks) (fun b u e => Heap.get?_push_of_some _ e) (Nat.le_refl _) ?_, hf, q2⟩
    exact ⟨show (2 : Nat) ≤ sizeLine by decide, [u1, u2], .cons r1 (.cons r2 .nil), ⟨_, Heap.get?_push_size _ rfl, rfl, _, rfl⟩⟩
  · subst e
    rw [ht]
    refine wpAny_mono (PySem.wpAny_toks (hg.run pins s1 σ _ (.ref a) (.ref a) _ I1 rfl (q a f1))) (fun _ s2 z => ?_) fun _ _ z => z.2
    obtain ⟨k2, σ2, H3, I3, q3⟩ := z
    exact ⟨s2.toks, Nat.le_refl _, σ2, H3, I3, q3 _ (Nat.le_trans n1 k2) (Nat.le_trans k1 k2)⟩
/-- for -/
def nFor (wi : TI) (g : TG) (tb : TSn) : TSn := fun D n σ H => wi σ H fun J H1 => ∃ W : Nat → Nat → Nat → L2.St → Hp → Prop, (∃ m, W 0 m n σ H1) ∧ ∀ i m n σ H, W i m n σ H →
  (J.stop i H ∧ (D n).nx σ H) ∨ (J.go i H ∧ ∃ N : Nat → L2.St → Hp → Prop, (∀ n' σ' H', N n' σ' H' → ∃ m', m' < m ∧ W (i + 1) m' n' σ' H') ∧
    ∀ x H', J.yld i H x H' → g x σ H' fun σ2 H2 => tb (fun k => { D k with nx := N k, ct := N k, bk := (D k).nx }) n σ2 H2)
theorem psn_for {tg iter : Expr} {body : List Stmt} {wi : TI} {g : TG} {tb : TSn} {pos : Pos} (hp : PassesOwn (model X.prog X.w) X.A X.env X.xe) (hc : X.calm = true) (hi : PI X tg iter wi) (hg : PG X tg g) (hb : PSsn X body tb)
    (hs : ∀ x, foldedSetIterable iter X.env x = pure x := by intro _; rfl) : PSn X (.For tg iter body [] pos) (nFor wi g tb) := by
  intro pins s σ H D n h0 I h
  -- the evaluation, with the count of tokens beside
  have ev := PySem.wpAny_toks_of h0 (hi.run pins s σ H _ I h)
  refine wpAny_For (wpAny_mono ev (fun v s1 z => wpAny_mono (PySem.wpAny_toks_of z.1 z.2) (fun itv s2 z => ?_) fun _ _ y => y.2) fun _ _ z => z.2) hs
  obtain ⟨k2, it, fp, tn, J, H2, rfl, I2, T, st2, f2, W, ⟨m0, w0⟩, turn⟩ := z
  refine codeAny_forLoop_any (fun m s' => ∃ i n σ' H', n ≤ s'.toks ∧ Inv X pins σ' H' s' ∧ tn i s'.heap ∧ (∀ b ∈ fp, H' b = none) ∧ W i m n σ' H') ?_ m0 ⟨0, n, σ, H2, k2, I2, st2, fun b hb => (f2 b hb).1, w0⟩
  rintro m s3 ⟨i, n3, σ3, H3, k3, I3, st3, fr3, w3⟩
  have fk : ∀ b ∈ fp, FpOk X pins H3 b := fun b hb => ⟨fr3 b hb, (f2 b hb).2⟩
  rcases turn i m n3 σ3 H3 w3 with ⟨stop, qn⟩ | ⟨go, N, hN, step⟩
  · refine wpAny_passesOwn hp (wpAny_mono (PySem.wpAny_toks_of k3 (T.done X rfl rfl rfl hc i pins s3 σ3 H3 X.xe I3 fk st3 stop)) (fun r s4 ⟨k4, hr, I4⟩ => ?_) fun _ _ y => y.2)
    rw [hr]
    exact wpAny_execs_nil ⟨n3, k4, σ3, H3, I4, qn⟩
  · refine wpAny_passesOwn hp (wpAny_mono (PySem.wpAny_toks_of k3 (T.item X rfl rfl rfl hc i pins s3 σ3 H3 X.xe I3 fk st3 go)) (fun r s4 ⟨k4, u, hr, h4⟩ => ?_) fun _ _ y => y.2)
    rw [hr]
    refine wpAny_passesOwn hp (wpAny_mono (PySem.wpAny_toks_of k4 h4) (fun _ s5 ⟨k5, x, H5, I5, r5, y5, st5, fr5⟩ => ?_) fun _ _ y => y.2)
    have own := T.obj _ _ st5
    have J5 := I5.pinned (fun b hb => ⟨fr5 b hb, (f2 b hb).2⟩) own
    refine wpAny_passesOwn hp (wpAny_mono (PySem.wpAny_toks_of k5 (hg.run _ s5 σ3 H5 x u _ J5 r5 (step x H5 y5))) (fun _ s6 ⟨k6, σ6, H6, I6, q6⟩ => ?_) fun _ _ y => y.2)
    refine wpAny_passesOwn hp (thn (hb _ s6 σ6 H6 _ n3 k6 I6 q6) fun f s7 ⟨n7, k7, q7⟩ => ?_)
    have next : (∃ σ7 H7, Inv X (pins ++ pinsAt fp s5.heap) σ7 H7 s7 ∧ N n7 σ7 H7) → ∃ m', m' < m ∧ ∃ i n σ' H', n ≤ s7.toks ∧ Inv X pins σ' H' s7 ∧ tn i s7.heap ∧ (∀ b ∈ fp, H' b = none) ∧ W i m' n σ' H' := by
      rintro ⟨σ7, H7, I7, z7⟩
      obtain ⟨m', hm, w7⟩ := hN n7 σ7 H7 z7
      have held : ∀ b ∈ fp, ∀ o, s5.heap.get? b = some o → s7.heap.get? b = some o ∧ H7 b = none := fun b hb o e => by
        have := I7.pin (b, o) (List.mem_append_right _ (List.mem_append_right _ (mem_pinsAt hb e)))
        exact ⟨this.1, this.2.1⟩
      refine ⟨m', hm, i + 1, n7, σ7, H7, k7, I7.unpinned, T.keep _ _ _ st5 fun b hb o e => (held b hb o e).1, fun b hb => ?_, w7⟩
      obtain ⟨o, e, _⟩ := own b hb
      exact (held b hb o e).2
    cases f with
    | next => exact next q7
    | cont => exact next q7
    | brk =>
      obtain ⟨σ7, H7, I7, q7⟩ := q7
      exact ⟨n7, k7, σ7, H7, I7.unpinned, q7⟩
    | ret v =>
      obtain ⟨x7, σ7, H7, I7, r7, q7⟩ := q7
      exact ⟨n7, k7, x7, σ7, H7, I7.unpinned, r7, q7⟩
end
/-! ### lists of signs, their tokens bounded -/
def Its (B : Nat) (cs : List Nat) (its : List Value) : Prop := its.length = cs.length ∧ ∀ (i : Nat) (u : Value), its[i]? = some u → ∃ t : Tok, u = Value.str (tx [cs.getD i 0]) t ∧ t ≠ 0 ∧ t < B
theorem Its.mono {B C : Nat} {cs : List Nat} {its : List Value} (h : Its B cs its) (hB : B ≤ C) : Its C cs its :=
  ⟨h.1, fun i u e => by obtain ⟨t, a, b, c⟩ := h.2 i u e; exact ⟨t, a, b, Nat.lt_of_lt_of_le c hB⟩⟩
theorem Its.snoc {B : Nat} {cs : List Nat} {its : List Value} {c : Nat} {t : Tok} (h : Its B cs its) (h0 : t ≠ 0) (ht : t < B) : Its B (cs ++ [c]) (its ++ [Value.str (tx [c]) t]) := by
  refine ⟨by simp [h.1], fun i u e => ?_⟩
  by_cases hi : i < its.length
  · rw [List.getElem?_append_left hi] at e
    obtain ⟨t', a, b, d⟩ := h.2 i u e
    refine ⟨t', ?_, b, d⟩
    rw [a, List.getD_eq_getElem?_getD, List.getD_eq_getElem?_getD, List.getElem?_append_left (by rw [← h.1]; exact hi)]
  · have hl : i < (its ++ [Value.str (tx [c]) t]).length := (List.getElem?_eq_some_iff.mp e).1
    have : i = its.length := by simp at hl; omega
    subst this
    rw [List.getElem?_append_right (Nat.le_refl _), Nat.sub_self] at e
    have := Option.some.inj e
    subst this
    refine ⟨t, ?_, h0, ht⟩
    rw [h.1, List.getD_eq_getElem?_getD, List.getElem?_append_right (Nat.le_refl _), Nat.sub_self]
    rfl
def FL (l : Addr) (B : Nat) (cs : List Nat) (h : Heap) : Prop := ∃ (its : List Value) (m : Nat), Its B cs its ∧ h.get? l = some { cls := .type "list", data := .seq its.toArray m }
def FLO (l : Addr) (B : Nat) (cs : List Nat) : HO := .ext (FL l B cs)
section
variable {X : Cx} {pins : List (Addr × Obj)} {σ : L2.St} {H : Hp} {s : Shared} {l : Addr} {B : Nat} {cs : List Nat}
theorem fl_ok {H : Hp} {h : Heap} (q : FL l B cs h) : ObjOk X.prog X.w H h l (FLO l B cs) := by
  refine ⟨q, ?_, fun h1 h2 ⟨its, m, a, b⟩ k => ⟨its, m, a, k _ b⟩⟩
  obtain ⟨its, m, _, b⟩ := q
  exact ⟨_, b⟩
theorem fl_of (I : Inv X pins σ H s) (h : H l = some (FLO l B cs)) : FL l B cs s.heap := (I.hok l _ h).1
/-- an empty list is taken up -/
theorem fl_start (I : Inv X pins σ H s) (h : H l = some (.lst [])) : Inv X pins σ (upd H l (FLO l 0 [])) s := by
  obtain ⟨_, its, m, r, e, g⟩ := I.lstM h
  obtain rfl : its = [] := List.eq_nil_of_length_eq_zero e.symm
  exact I.write (x := l) (e := l) (h' := s.heap) (t' := s.toks) (by rw [h]; exact trivial) (.inl rfl) (fun _ _ _ u => u) ⟨_, g⟩ (fl_ok ⟨[], m, ⟨rfl, fun i u e => by cases e⟩, g⟩)
end
section
variable {X : Cx}
/-- free.append(text[at]): the new sign's token is the newest -/
def nApp (il ir ia : Nat) : TSn := fun D n σ H => ∃ (l : Addr) (B : Nat) (cs r : List Nat) (k c : Nat), σ[il]? = some (some (.ref l)) ∧ σ[ir]? = some (some (.str (tx r))) ∧ σ[ia]? = some (some (.int (k : Int))) ∧ r[k]? = some c ∧ r.length ≤ 1000 ∧
  H l = some (FLO l B cs) ∧ cs.length ≤ 1000 ∧ 1 ≤ n ∧ B ≤ n ∧ ∀ n', n < n' → (D n').nx σ (upd H l (FLO l n' (cs ++ [c])))
theorem psn_app {il ir ia : Nat} {lx rx ax : Str} {p1 p2 p3 p4 apos cpos pos : Pos} (hl : X.N[il]? = some lx) (vl : Vis X.env.scope lx) (hr : X.N[ir]? = some rx) (vr : Vis X.env.scope rx) (ha : X.N[ia]? = some ax) (va : Vis X.env.scope ax)
    (dl : (lx == ("__debug__" : Str)) = false := by decide) (el : (lx == ("__classdict__" : Str)) = false := by decide) (dr : (rx == ("__debug__" : Str)) = false := by decide) (er : (rx == ("__classdict__" : Str)) = false := by decide)
    (da : (ax == ("__debug__" : Str)) = false := by decide) (ea : (ax == ("__classdict__" : Str)) = false := by decide)
    (hs : swapsWith (.Call (.Attribute (.Name lx p1) "append" apos) [.Subscript (.Name rx p2) (.Name ax p3) p4] [] cpos) none pos.line X.env = pure false := by rfl)
    (hst : starEach [.Subscript (.Name rx p2) (.Name ax p3) p4] X.env = [(false, eval (.Subscript (.Name rx p2) (.Name ax p3) p4) X.env)] := by rfl)
    (hbase : attributeBase (.Name lx p1) "append" X.env (eval (.Name lx p1) X.env) = eval (.Name lx p1) X.env := by rfl) (hline : (apos.endLine == cpos.line) = true := by rfl) :
    PSn X (.Expr (.Call (.Attribute (.Name lx p1) "append" apos) [.Subscript (.Name rx p2) (.Name ax p3) p4] [] cpos) pos) (nApp il ir ia) := by
  intro pins s σ H D n h0 I h
  obtain ⟨l, B, cs, r, k, c, sl, sr, sa, hc, hz, hH, hz2, h1, hB, q⟩ := h
  refine wpAny_Expr_any (PySem.Call_method1 hbase hst hline (raw_name hl vl I sl (fun v rv => ?_) dl el)) I.quiet hs
  obtain rfl : v = Value.ref l := rv
  obtain ⟨its, m, hi, hg⟩ := fl_of I hH
  refine ⟨"list", _, F.plainAttrs_list, F.slot_list_append, F.type_list_append, ⟨_, hg, rfl⟩, (fun a e => by cases e; exact ⟨_, hg, rfl⟩), Calls.callWith_builtin rfl (Calls.evalArgs_plain (Calls.spliced_cons ?_))⟩
  refine Subscript_ (raw_name hr vr I sr (fun v rv => raw_name ha va I sa (fun u ru => ?_) da ea) dr er)
  obtain ⟨t, rfl⟩ := rv
  obtain ⟨t', rfl⟩ := ru
  have hk := (List.getElem?_eq_some_iff.mp hc).1
  refine tail_any (typeIs_str _ _ _) slot_str_getitem.lookup (getItem_str (c := c) ?_ ?_ ?_) rfl
  · have e1 : decide ((k : Int) < -(2 ^ 63 : Int)) = false := decide_eq_false (by omega)
    have e2 : decide ((k : Int) ≥ 2 ^ 63) = false := decide_eq_false (by omega)
    rw [e1, e2, Bool.or_false]
  · have el : (tx r).length = r.length := by simp [tx, Str.length]
    rw [seqIndex_at (by omega) (by rw [el]; omega)]
    show (tx r).cps[((k : Int)).toNat]? = some c
    rw [Int.toNat_natCast]
    simpa [tx] using hc
  · refine Calls.spliced_nil ?_
    have I1 : Inv X pins σ H { s with toks := s.toks + 1 } := I.tok _
    have hi' : Its (s.toks + 1) (cs ++ [c]) (its ++ [Value.str (tx [c]) s.toks]) := (hi.mono (by omega)).snoc (show s.toks ≠ 0 by omega) (Nat.lt_succ_self _)
    refine call_meets F.slot_list_append ⟨_, hg, rfl⟩ F.entry_list_append (F.args_list_append_2 _ _) (PySem.list_append l its.toArray m _ (by rw [List.size_toArray, hi.1]; exact Nat.le_trans hz2 (by decide))) ⟨hg, ?_⟩
    have g2 := PySem.IsL.update hg (fun a => a.push (Value.str (tx [c]) s.toks))
    obtain ⟨m2, g3⟩ : ∃ m2, (s.heap.update l (Obj.mapSeq fun a => a.push (Value.str (tx [c]) s.toks))).get? l = some { cls := .type "list", data := .seq (its.toArray.push (Value.str (tx [c]) s.toks)) m2 } := ⟨_, g2⟩
    have I2 : Inv X pins σ (upd H l (FLO l (s.toks + 1) (cs ++ [c]))) { s with heap := s.heap.update l (Obj.mapSeq fun a => a.push (Value.str (tx [c]) s.toks)), toks := s.toks + 1 } := by
      refine I1.write (x := l) (e := l) (by rw [hH]; exact trivial) (.inl rfl) (fun b' u hb hu => (Heap.get?_update_other s.heap _ (Ne.symm hb)).trans hu) ⟨_, g3⟩ (fl_ok ⟨_, m2, hi', ?_⟩)
      have e : (its ++ [Value.str (tx [c]) s.toks]).toArray = its.toArray.push (Value.str (tx [c]) s.toks) := by simp
      rw [e]
      exact g3
    exact ⟨s.toks + 1, Nat.le_refl _, σ, _, I2, q _ (by omega)⟩
/-- min of these -/
def rMinL : List V → Hp → VK → Prop := fun xs H Q => ∃ (l : Addr) (B : Nat) (cs : List Nat) (c : Nat), xs = [.ref l] ∧ H l = some (FLO l B cs) ∧ c ∈ cs ∧ (∀ x ∈ cs, c ≤ x) ∧ Q (.str (tx [c])) H
theorem min_pick {cs : List Nat} {c j : Nat} (hj : j < cs.length) (h : ∀ i, i < cs.length → cs.getD j 0 ≤ cs.getD i 0) (hc : c ∈ cs) (hm : ∀ x ∈ cs, c ≤ x) : cs.getD j 0 = c := by
  have e : cs.getD j 0 = cs[j] := by rw [List.getD_eq_getElem?_getD, List.getElem?_eq_getElem hj]; rfl
  obtain ⟨i, hi, ei⟩ := List.mem_iff_getElem.mp hc
  have e2 : cs.getD i 0 = c := by rw [List.getD_eq_getElem?_getD, List.getElem?_eq_getElem hi]; exact ei
  have a := h i hi
  have b := hm _ (e ▸ List.getElem_mem hj)
  omega
/-- raw: the very token -/
theorem min_raw {pins : List (Addr × Obj)} {σ : L2.St} {H : Hp} {s : Shared} {l : Addr} {B c : Nat} {cs : List Nat} {Q : Value → Shared → Prop} {E : Value → Shared → Prop} (hc : X.calm = true) (I : Inv X pins σ H s) (hH : H l = some (FLO l B cs)) (hm : c ∈ cs) (hle : ∀ x ∈ cs, c ≤ x)
    (q : ∀ (t : Tok) s', t ≠ 0 → t < B → Inv X pins σ H s' → Q (.str (tx [c]) t) s') : wpAny (model X.prog X.w) X.A (call (.builtin "min") [.ref l]) Q E s := by
  obtain ⟨its, m, hi, hg⟩ := fl_of I hH
  refine min_onesL (items := its.toArray) (ns := cs) (I.ok.hd hc) ⟨_, hg, rfl, m, rfl⟩ (by rw [List.size_toArray, hi.1]) (List.length_pos_of_mem hm) (fun i v e => ?_) fun j v h' tk e hj hlt k => ?_
  · obtain ⟨t, a, _⟩ := hi.2 i v (by simpa using e)
    exact ⟨t, a⟩
  · obtain ⟨t, a, b, d⟩ := hi.2 j v (by simpa using e)
    rw [min_pick hlt hj hm hle] at a
    subst a
    exact q t _ b d (I.kept k)
theorem cr_minL (hc : X.calm = true) : CallR X (.builtin "min") rMinL := by
  intro pins s σ H xs us Q I r h
  obtain ⟨l, B, cs, c, rfl, hH, hm, hle, q⟩ := h
  obtain ⟨u, rfl, ru⟩ := r.one
  obtain rfl : u = Value.ref l := ru
  exact min_raw hc I hH hm hle fun t s' _ _ I' => ⟨.str (tx [c]), H, I', ⟨t, rfl⟩, q⟩
/-- text.replace(min(free), "") -/
def nRepMin (ir il : Nat) : TEn := fun n σ H Q => ∃ (l : Addr) (B : Nat) (cs : List Nat) (c : Nat) (r : List Nat), σ[il]? = some (some (.ref l)) ∧ σ[ir]? = some (some (.str (tx r))) ∧ r.length ≤ 1000 ∧ H l = some (FLO l B cs) ∧ c ∈ cs ∧ (∀ x ∈ cs, c ≤ x) ∧ B ≤ n ∧ Q (.str (tx (r.filter fun x => x != c))) H
theorem pen_repMin {ir il : Nat} {rx lx : Str} {j : Nat} {p1 p2 p3 p4 cp apos pos : Pos} (hc : X.calm = true) (hr : X.N[ir]? = some rx) (vr : Vis X.env.scope rx) (hl : X.N[il]? = some lx) (vl : Vis X.env.scope lx) (hg : Gl X "min") (hm : X.mg "min" = none)
    (dr : (rx == ("__debug__" : Str)) = false := by decide) (er : (rx == ("__classdict__" : Str)) = false := by decide) (dl : (lx == ("__debug__" : Str)) = false := by decide) (el : (lx == ("__classdict__" : Str)) = false := by decide)
    (hst : starEach [.Call (.Name "min" p2) [.Name lx p3] [] p4, .Constant (.str "") j cp] X.env = [(false, eval (.Call (.Name "min" p2) [.Name lx p3] [] p4) X.env), (false, eval (.Constant (.str "") j cp) X.env)] := by rfl)
    (hst2 : starEach [.Name lx p3] X.env = [(false, eval (.Name lx p3) X.env)] := by rfl)
    (hbase : attributeBase (.Name rx p1) "replace" X.env (eval (.Name rx p1) X.env) = eval (.Name rx p1) X.env := by rfl) (hline : (apos.endLine == pos.line) = true := by rfl) :
    PEn X (.Call (.Attribute (.Name rx p1) "replace" apos) [.Call (.Name "min" p2) [.Name lx p3] [] p4, .Constant (.str "") j cp] [] pos) (nRepMin ir il) := by
  intro pins s σ H Q n h0 I h
  obtain ⟨l, B, cs, c, r, sl, sr, hz, hH, hmc, hle, hB, q⟩ := h
  refine PySem.Call_method2 hbase hst hline (raw_name hr vr I sr (fun v rv => ?_) dr er)
  obtain ⟨t0, rfl⟩ := rv
  refine ⟨"str", _, F.plainAttrs_str, F.slot_str_replace, F.type_str_replace, typeIs_str _ _ _, (fun _ e => nomatch e), Calls.callWith_builtin rfl (Calls.evalArgs_plain (Calls.spliced_cons ?_))⟩
  refine wpAny_mono (Q := fun u s1 => n ≤ s1.toks ∧ ∃ t : Tok, u = Value.str (tx [c]) t ∧ t ≠ 0 ∧ t < B ∧ Inv X pins σ H s1) (PySem.wpAny_toks_of h0 (wpAny_Call_Name_kw (ld_blt I hg hm (u := .builtin "min") rfl ?_ (by decide) (by decide)))) (fun u s1 ⟨k1, t, hu, ht, hlt, I1⟩ => ?_) fun _ _ z => z.2
  · exact PyProof.Rows.callWith_builtin1 (Calls.spliced_cons (raw_name hl vl I sl (fun v rv => Calls.spliced_nil (by
      obtain rfl : v = Value.ref l := rv
      exact min_raw hc I hH hmc hle fun t s' a b I' => ⟨t, rfl, a, b, I'⟩)) dl el)) hst2 rfl
  · subst hu
    refine Calls.spliced_cons (Calls.Constant_str (Calls.spliced_nil ?_))
    have lt : t < s1.toks := Nat.lt_of_lt_of_le hlt (Nat.le_trans hB k1)
    refine PySem.SC.replace ht (Nat.ne_of_gt (Nat.lt_of_le_of_lt (Nat.zero_le _) lt)) (Nat.ne_of_lt lt) rfl ?_ fun t' k => ?_
    · show (tx r).length + ((tx r).length + 1) * 0 ≤ 16777216
      have : (tx r).length = r.length := by simp [tx, Str.length]
      omega
    · have e : Txt.replace (tx r) (tx [c]) ("" : Str) = tx (r.filter fun x => x != c) := replace_out r c
      rw [e]
      exact ⟨.str (tx (r.filter fun x => x != c)), H, I1.tok k, ⟨t', rfl⟩, q⟩
end
end Ow

namespace Ow
open PySem PySem.Spec PyProof.Rows L2 Evl
theorem freesA_snoc (F : Nat → Nat → Bool) (x : Nat) : ∀ (w pre : List Nat), freesA F pre (w ++ [x]) = freesA F pre w ++ (if (pre ++ w).all (fun a => !F a x) then [x] else [])
  | [], pre => by
    rw [List.append_nil]
    rfl
  | y :: r, pre => by
    have ih := freesA_snoc F x r (pre ++ [y])
    have e : pre ++ [y] ++ r = pre ++ y :: r := by simp
    rw [e] at ih
    show (if pre.all (fun a => !F a y) then y :: freesA F (pre ++ [y]) (r ++ [x]) else freesA F (pre ++ [y]) (r ++ [x])) = (if pre.all (fun a => !F a y) then y :: freesA F (pre ++ [y]) r else freesA F (pre ++ [y]) r) ++ _
    rw [ih]
    split <;> rfl
theorem frees_take {F : Nat → Nat → Bool} {w : List Nat} {i x : Nat} (h : w[i]? = some x) : frees F (w.take (i + 1)) = frees F (w.take i) ++ (if (w.take i).all (fun a => !F a x) then [x] else []) := by
  rw [List.take_add_one, h]
  exact freesA_snoc F x _ []
theorem freesA_sub {F : Nat → Nat → Bool} : ∀ (w pre : List Nat), ∀ x ∈ freesA F pre w, x ∈ w
  | [], _, x, h => by cases h
  | y :: r, pre, x, h => by
    have ih := freesA_sub (F := F) r (pre ++ [y]) x
    unfold freesA at h
    split at h
    · rcases List.mem_cons.mp h with e | h
      · exact e ▸ List.mem_cons_self
      · exact List.mem_cons_of_mem _ (ih h)
    · exact List.mem_cons_of_mem _ (ih h)
theorem freesA_len {F : Nat → Nat → Bool} : ∀ (w pre : List Nat), (freesA F pre w).length ≤ w.length
  | [], _ => Nat.le_refl _
  | y :: r, pre => by
    have ih := freesA_len (F := F) r (pre ++ [y])
    unfold freesA
    split
    · exact Nat.succ_le_succ ih
    · exact Nat.le_succ_of_le ih
theorem least_in {l : List Nat} (h : l ≠ []) : leastOf l ∈ l ∧ ∀ x ∈ l, leastOf l ≤ x := by
  cases l with
  | nil => exact absurd rfl h
  | cons x r =>
    obtain ⟨h1, h2, h3⟩ := foldl_min_le r x
    refine ⟨?_, fun y hy => ?_⟩
    · rcases h3 with e | e
      · show r.foldl min x ∈ x :: r
        rw [e]
        exact List.mem_cons_self
      · exact List.mem_cons_of_mem _ e
    · rcases List.mem_cons.mp hy with rfl | hy
      · exact h1
      · exact h2 y hy
section
variable {X : Cx}
/-- name = [] : a list that will tell its tokens -/
def nFree (i : Nat) : TSn := fun D n σ H => ∀ a, H a = none → (D n).nx (σ.set i (some (.ref a))) (upd H a (FLO a 0 []))
theorem psn_free {i : Nat} {x : Str} {p pl pos : Pos} (hN : X.N.Nodup) (hi : X.N[i]? = some x) (hx : Loc X.env.scope x) (hs : swapsWith (.List [] pl) (some (.Name x p)) pos.line X.env = pure false := by rfl)
    (hf : X.fn x = true ∨ X.env.scope.names.lookup x = some .local := by first | exact .inl rfl | exact .inr rfl | assumption) : PSn X (.Assign [.Name x p] (.List [] pl) pos) (nFree i) := by
  intro pins s σ H D n h0 I h
  have r := (ps_set (pos := pos) (pos' := p) hN hi hx (pe_lst (pos := pl) pa_nil) hs hf).run pins s σ H { nx := fun σ' H' => ∃ a, H a = none ∧ σ' = σ.set i (some (.ref a)) ∧ H' = upd H a (.lst []), rt := fun _ _ => False, bk := fun _ _ => False, ct := fun _ _ => False } I
    ⟨Nat.zero_le _, fun a ha => ⟨a, ha, rfl, rfl⟩⟩
  refine wpAny_mono (PySem.wpAny_toks_of h0 r) (fun f s1 z => ?_) fun _ _ z => z.2
  obtain ⟨k1, z⟩ := z
  cases f with
  | next =>
    obtain ⟨σ', H', I', a, ha, rfl, rfl⟩ := z
    have I2 := fl_start I' upd_same
    rw [upd_upd] at I2
    exact ⟨n, k1, _, _, I2, h a ha⟩
  | brk => obtain ⟨_, _, _, z⟩ := z; exact z.elim
  | cont => obtain ⟨_, _, _, z⟩ := z; exact z.elim
  | ret v => obtain ⟨_, _, _, _, _, z⟩ := z; exact z.elim
end
section
variable {σ : L2.St} {H : Hp} {wi : TI} {I : List V → Hp → Prop} {tb : TSn} {D : En} {n : Nat}
theorem n_forX {g : TG} (hI : EvX wi σ H I) (Pv : Hp → List V → Nat → Nat → L2.St → Hp → Prop) (hx : ∀ H0 xs i n σ' H', Pv H0 xs i n σ' H' → Ex H0 H')
    (h0 : ∀ xs H1, Ex H H1 → I xs H1 → Pv H1 xs 0 n σ H1)
    (hs : ∀ H0 xs i x n σ' H', Ex H H0 → I xs H0 → xs[i]? = some x → Pv H0 xs i n σ' H' → g x σ' H' fun σ2 H2 => tb (fun k => { D k with nx := Pv H0 xs (i + 1) k, ct := Pv H0 xs (i + 1) k, bk := (D k).nx }) n σ2 H2)
    (hd : ∀ H0 xs n σ' H', Ex H H0 → I xs H0 → Pv H0 xs xs.length n σ' H' → (D n).nx σ' H') : nFor wi g tb D n σ H := hI H (Ex.refl H) _ fun J H2 xs G e2 hxs w hG => by
  refine ⟨fun i m n σ H => m = xs.length - i ∧ i ≤ xs.length ∧ Pv H2 xs i n σ H, ⟨xs.length, by simp, Nat.zero_le _, h0 xs H2 e2 hxs⟩, ?_⟩
  rintro i m n3 σ3 H3 ⟨rfl, hi, p⟩
  have q := hG H3 (hx _ _ _ _ _ _ p)
  by_cases hlt : i < xs.length
  · refine .inr ⟨w.goes i H3 hlt q, Pv H2 xs (i + 1), fun n' σ' H' p' => ⟨xs.length - (i + 1), by omega, rfl, hlt, p'⟩, fun x H' y => ?_⟩
    obtain ⟨rfl, hx'⟩ := w.yields i H3 x H' hlt q y
    exact hs H2 xs i x n3 σ3 H' e2 hxs hx' p
  · have e : i = xs.length := by omega
    subst e
    exact .inl ⟨w.stops H3 q, hd H2 xs n3 σ3 H3 e2 hxs p⟩
theorem n_forR {g : TG} {ta : TA} {N : Nat} (h : EvA ta σ H [.int (N : Int)]) (hN : N ≤ 100000) (Pv : Nat → Nat → L2.St → Hp → Prop) (h0 : ∀ H1, Ex H H1 → Pv 0 n σ H1)
    (hs : ∀ i n σ' H', i < N → Pv i n σ' H' → g (.int (i : Int)) σ' H' fun σ2 H2 => tb (fun k => { D k with nx := Pv (i + 1) k, ct := Pv (i + 1) k, bk := (D k).nx }) n σ2 H2)
    (hd : ∀ n σ' H', Pv N n σ' H' → (D n).nx σ' H') : nFor (iRng1 ta) g tb D n σ H := h H (Ex.refl H) _ fun H2 e2 => ⟨(N : Int), rfl, by omega, by omega, by
  have w := walk_ints 0 N
  have z : (fun i : Nat => V.int ((0 : Int) + (i : Int))) = fun i : Nat => V.int (i : Int) := by funext i; rw [Int.zero_add]
  rw [z] at w
  refine ⟨fun i m n σ H => m = N - i ∧ i ≤ N ∧ Pv i n σ H, ⟨N, by simp, Nat.zero_le _, h0 H2 e2⟩, ?_⟩
  rintro i m n3 σ3 H3 ⟨rfl, hi, p⟩
  have w : Walk (Itr 0 N) N (fun _ => True) (YAt ((List.range N).map fun i => V.int ((i : Nat) : Int))) := by
    have := w
    simpa using this
  by_cases hlt : i < N
  · refine .inr ⟨w.goes i H3 hlt trivial, Pv (i + 1), fun n' σ' H' p' => ⟨N - (i + 1), by omega, rfl, hlt, p'⟩, fun x H' y => ?_⟩
    obtain ⟨rfl, hx'⟩ := w.yields i H3 x H' hlt trivial y
    rw [List.getElem?_map, List.getElem?_range hlt] at hx'
    have hx' := Option.some.inj hx'
    subst hx'
    exact hs i n3 σ3 H' hlt p
  · have e : i = N := by omega
    subst e
    exact .inl ⟨w.stops H3 trivial, hd n3 σ3 H3 p⟩⟩
end
theorem n_asg2 {k n : Nat} {t1 : TE} {t2 : TEn} {g : TG} {D : En} {σ : L2.St} {H : Hp} {v1 : V} (h1 : Ev t1 σ H v1)
    (h : ∀ H1, Ex H H1 → t2 n σ H1 fun v2 H2 => ∀ a, H2 a = none → g (.ref a) σ (upd H2 a (.tup [v1, v2])) fun σ2 H3 => ∀ n', n ≤ n' → k ≤ n' → (D n').nx σ2 H3) : nAsg2 k t1 t2 g D n σ H := h1 H (Ex.refl H) _ h
theorem all_empty {F : Nat → Nat → Bool} {x : Nat} (l : List Nat) : ((l.filter (fun a => F a x)).map fun c => [c]).isEmpty = l.all (fun a => !F a x) := by
  induction l with
  | nil => rfl
  | cons y r ih =>
    rw [List.filter_cons, List.all_cons]
    cases h : F y x with
    | true => rfl
    | false => simpa using ih
abbrev kdN : List Str := ["_law_company_here", "_law_word_here", "_law_rest", "_law_found", "_law_turn", "_law_free", "_law_at", "_law_sign"]
section
variable {P : Program} {w : World} {K : PySem.W.Frag} {mg : Str → Option Value} {base : Heap} (T : Txt K mg)
theorem ok_kind (GF : FnOk P w K mg base CX0 1 T.l_firsts.f T.l_firsts.d ["_law_word_here"] spFirsts) (GR : FnOk P w K mg base CX0 1 T.l_friend.f T.l_friend.d ["_law_company_here", "_law_one", "_law_other"] spFriend) :
    FnOk P w K mg base CX0 2 T.l_kind.f T.l_kind.d ["_law_company_here", "_law_word_here"] spKind := by
  refine T.l_kind.F.ok sc_l_kind (fun vs H Q E h => ?_) (fun cdv A outer s H vs Q E hr h => ?_)
  · obtain ⟨c, n, ps, word, rfl, _⟩ := h
    rfl
  · obtain ⟨c, n, ps, word, rfl, hc, hv, hl, hw, k⟩ := h
    refine ⟨_, pss_of (pssn_cons (psn_asg2 (pe_call GF hr (by rfl) T.l_firsts.g T.l_firsts.F.kp T.l_firsts.b .nil pass0 (pa_cons (pv 1) pa_nil)) pek_str
        (pg_tup rfl (pgs_cons (pg_name (i := 2) sc_l_kind.nd rfl (.inr rfl)) (pgs_cons (pg_name (i := 3) sc_l_kind.nd rfl (.inl rfl)) pgs_nil))))
      (pssn_cons (psn_for PassesOwn.never rfl (pi_range1 rfl T.z_range (pa_cons (pe_callB call_len_str (by rfl) T.z_len PySem.boot_len (pa_cons (pv 2) pa_nil)) pa_nil)) (pg_name (i := 4) sc_l_kind.nd rfl (.inl rfl))
        (pssn_cons (psn_free (i := 5) sc_l_kind.nd rfl (.inl rfl))
        (pssn_cons (psn_for PassesOwn.never rfl (pi_range1 rfl T.z_range (pa_cons (pe_callB call_len_str (by rfl) T.z_len PySem.boot_len (pa_cons (pv 2) pa_nil)) pa_nil)) (pg_name (i := 6) sc_l_kind.nd rfl (.inr rfl))
          (pssn_one (psn_if (pt_cmpR (op_eqD (room64 hr)) (pe_lc (own := [("_law_sign", 7)]) (g := gName 7) rfl sc_l_kind.nd (pi_str (pe_slice sl_str (pv 2) po_none (po_some (pv 6)))) (blkOk_by (N := kdN) (sc := defScope s_l_kind) (by decide +kernel)) (fun _ _ _ _ _ => pg_name (i := 7) sc_l_kind.nd rfl (.inl rfl))
              (fun _ _ _ _ _ => pts_one (pt_val (pe_call GR hr (by rfl) T.l_friend.g T.l_friend.F.kp T.l_friend.b .nil pass0 (pa_cons (pv 0) (pa_cons (pv 7) (pa_cons (pe_ix ix_str (pv 2) (pv 6) (fun _ _ => rfl)) pa_nil)))))) (fun _ _ _ _ _ => pv 7)) (pe_lst pa_nil) (nomark _))
            (pssn_one (psn_app (il := 5) (ir := 2) (ia := 6) rfl (.inl rfl) rfl (.inr (.inl rfl)) rfl (.inr (.inl rfl)))) pssn_nil)))
        (pssn_one (psn_asg2 (pe_op op_add_str (pv 3) (pe_callB (cr_minL rfl) (by rfl) T.z_min (by decide +kernel) (pa_cons (pv 5) pa_nil))) (pek_0 (pen_repMin (ir := 2) (il := 5) rfl rfl (.inr (.inl rfl)) rfl (.inl rfl) (by rfl) T.z_min))
          (pg_tup rfl (pgs_cons (pg_name (i := 3) sc_l_kind.nd rfl (.inl rfl)) (pgs_cons (pg_name (i := 2) sc_l_kind.nd rfl (.inr rfl)) pgs_nil)))))))
      )
      (pssn_one (psn_up (ps_ret (pv 3)))))), ?_⟩
    have nd := firsts_nodup word
    have fl : ∀ x ∈ firsts word, x ∈ word := fun x hx => (firsts_mem word).mp hx
    have fz : (firsts word).length ≤ word.length := nodup_len_le nd fl
    have sym := fr_sym ps
    have hi := hv.hi
    show nSeq _ _ _ 0 _ H
    refine ev_call0 (vs := [.str (tx word)]) (v := .str (tx (firsts word))) (ea_cons (ev_var rfl) ea_nil) (fun H1 e Q q E => ⟨word, rfl, hw, fun H2 e2 => q H2 e2⟩) H (Ex.refl H) _ fun H1 e1 => ?_
    refine fun a ha => ⟨a, _, rfl, st_of upd_same, rfl, V.str (tx (firsts word)), [V.str ""], rfl, V.str "", [], rfl, rfl, fun n1 _ hn1 => ?_⟩
    dsimp only
    have e2 : Ex H (upd H1 a (.tup [V.str (tx (firsts word)), V.str ""])) := e1.trans (Ex.new ha)
    show nFor _ _ _ _ n1 [some (.ref c), some (.str (tx word)), some (.str (tx (firsts word))), some (.str (tx [])), none, none, none, none] _
    refine n_forR (N := (firsts word).length) (ea_cons (ev_lenS (ev_var rfl) (by omega)) ea_nil) (by omega) (fun i n σ' H' => 1 ≤ n ∧ Ex H H' ∧ ∃ o4 o5 o6 f r, σ' = [some (.ref c), some (.str (tx word)), some (.str (tx r)), some (.str (tx f)), o4, o5, o6, none] ∧
      r.Nodup ∧ r.length = (firsts word).length - i ∧ (∀ x ∈ r, x ∈ word) ∧ f ++ nfk (fr ps) r.length r = nf (fr ps) (firsts word) ∧ f.length ≤ i)
      (fun H3 e3 => ⟨hn1, e2.trans e3, none, none, none, [], firsts word, rfl, nd, rfl, fl, rfl, Nat.zero_le _⟩) (fun i n σ' H3 hi2 pv => ?_) (fun n σ' H3 pv => ?_)
    · obtain ⟨p1, p2, o4, o5, o6, f, r, rfl, rn, rl, rm, hf, fz2⟩ := pv
      dsimp only
      refine fun l hl3 => ?_
      dsimp only
      have e3 : Ex H (upd H3 l (FLO l 0 [])) := p2.trans (Ex.new hl3)
      have hl0 : H l = none := by
        cases e : H l with
        | none => rfl
        | some o => rw [p2 _ _ e] at hl3; cases hl3
      refine n_forR (N := r.length) (ea_cons (ev_lenS (ev_var rfl) (by omega)) ea_nil) (by omega) (fun j n σ' H' => 1 ≤ n ∧ Ex H H' ∧ ∃ o6 B, σ' = [some (.ref c), some (.str (tx word)), some (.str (tx r)), some (.str (tx f)), some (.int (i : Int)), some (.ref l), o6, none] ∧
        H' l = some (FLO l B (frees (fr ps) (r.take j))) ∧ B ≤ n) (fun H4 e4 => ⟨p1, e3.trans e4, o6, 0, rfl, e4 _ _ upd_same, Nat.zero_le _⟩) (fun j n σ' H4 hj pv => ?_) (fun n σ' H4 pv => ?_)
      · obtain ⟨q1, q2, o6, B, rfl, q3, q4⟩ := pv
        have hx : r[j]? = some r[j] := List.getElem?_eq_getElem hj
        have hg : r.getD j 0 = r[j] := by rw [List.getD_eq_getElem?_getD, hx]; rfl
        have hxw := hl _ (rm _ (List.getElem_mem hj))
        have tk : (r.take j).length ≤ r.length := by rw [List.length_take]; omega
        refine et_test (b := (r.take j).all fun a => !fr ps a r[j]) (by
          rw [← all_empty]
          refine ev_eqNil (evp_ofL (by
            rw [show txs (((r.take j).filter fun a => fr ps a r[j]).map fun c => [c]) = ((r.take j).filter fun a => fr ps a r[j]).map (fun c => V.str (tx [c])) by unfold txs; rw [List.map_map]; rfl]
            exact el_lcF (r.take j) (fun c => V.str (tx [c])) (fun a => fr ps a r[j]) (fun c => V.str (tx [c])) (evx_str (ev_slTake (to := tNoPart) (ev_var rfl) (ev_var rfl) (by omega) (by omega))) (by omega) (fun x => rfl)
              (fun y H5 hy e5 => et_B (ev_call0 (vs := [.ref c, .str (tx [y]), .str (tx [r[j]])]) (ea_cons (ev_var rfl) (ea_cons (ev_var rfl) (ea_cons (by rw [← hg]; exact ev_ixTx (ev_var rfl) (ev_var rfl) hj (by omega)) ea_nil))) fun H6 e6 Q q E =>
                ⟨c, _, ps, y, r[j], rfl, hc.mono ((q2.trans e5).trans e6), hv, fun z hz => by
                  rcases List.mem_cons.mp hz with rfl | hz
                  · exact hl _ (rm _ (List.mem_of_mem_take hy))
                  · rw [List.mem_singleton] at hz
                    subst hz
                    exact hxw, fun H7 e7 => q H7 e7⟩))
              (fun y H5 hy hp e5 => ev_var rfl))) fun k hk x hx2 => by
                obtain ⟨y, hy, rfl⟩ := List.mem_map.mp hk
                rw [List.mem_singleton] at hx2
                subst hx2
                have := hl _ (rm _ (List.mem_of_mem_take (List.mem_filter.mp hy).1))
                omega) H4 (Ex.refl H4) _ fun H5 e5 => ?_
        have ft := frees_take (F := fr ps) hx
        have fz3 := freesA_len (F := fr ps) (r.take j) []
        refine ite2 (fun hb => ?_) (fun hb => ?_)
        · refine ⟨l, B, frees (fr ps) (r.take j), r, j, r[j], rfl, rfl, rfl, hx, by omega, e5 _ _ q3, by show (freesA _ _ _).length ≤ _; omega, q1, q4, fun n' hn' => ?_⟩
          refine ⟨by omega, (q2.trans e5).mut hl0, some (.int (j : Int)), n', rfl, ?_, Nat.le_refl _⟩
          rw [upd_same, ft, if_pos hb]
        · refine ⟨q1, q2.trans e5, some (.int (j : Int)), B, rfl, ?_, q4⟩
          rw [ft, if_neg hb, List.append_nil]
          exact e5 _ _ q3
      · obtain ⟨q1, q2, o6, B, rfl, q3, q4⟩ := pv
        rw [List.take_length] at q3
        have rne : r ≠ [] := fun z => by rw [z] at rl; simp at rl; omega
        obtain ⟨m1, m2⟩ := least_in (frees_ne (F := fr ps) rne)
        have mr : leastOf (frees (fr ps) r) ∈ r := freesA_sub r [] _ m1
        have fl1 := filter_ne_length rn mr
        dsimp only
        refine n_asg2 (ev_addS (a := f) (b := [leastOf (frees (fr ps) r)]) (ev_var rfl) (ev_cb (ea_cons (ev_var rfl) ea_nil) fun H5 e5 Q q => ⟨l, B, _, _, rfl, e5 _ _ q3, m1, m2, q H5 (Ex.refl _)⟩) (by simp; omega)) fun H5 e5 => ?_
        refine ⟨l, B, _, _, r, rfl, rfl, by omega, e5 _ _ q3, m1, m2, q4, fun b hb => ⟨b, _, rfl, st_of upd_same, rfl, _, _, rfl, _, [], rfl, rfl, fun n' h1 _ => ?_⟩⟩
        refine ⟨by omega, (q2.trans e5).trans (Ex.new hb), some (.int (i : Int)), some (.ref l), o6, f ++ [leastOf (frees (fr ps) r)], r.filter (fun x => x != leastOf (frees (fr ps) r)), rfl, rn.filter _, by omega, fun x hx => rm x (List.mem_filter.mp hx).1, ?_, by simp; omega⟩
        rw [← hf, ← fl1, List.append_assoc]
        rfl
    · obtain ⟨p1, p2, o4, o5, o6, f, r, rfl, rn, rl, rm, hf, fz2⟩ := pv
      have r0 : r = [] := List.eq_nil_of_length_eq_zero (by omega)
      subst r0
      have hf : f ++ [] = nf (fr ps) (firsts word) := hf
      rw [List.append_nil] at hf
      show tRet (tVar 3) _ _ H3
      refine s_ret (ev_var rfl) (fun H5 e5 => ?_)
      show Q _ H5
      have := k H5 (p2.trans e5)
      unfold kd at this
      rw [← hf] at this
      exact this
end
end Ow

namespace Ow
open PySem PySem.Spec PyProof.Rows L2 Evl
/-! ### a cell's exact value -/
section
variable {X : Cx} {pins : List (Addr × Obj)} {σ : L2.St} {H : Hp} {s : Shared}
/-- the cell c is rewritten -/
theorem inv_cell {i : Nat} {x : Str} {v : V} {u : Value} {c : Addr} {h' : Heap} (I : Inv X pins σ H s) (nd : X.N.Nodup) (hi : X.N[i]? = some x) (hk : X.env.kindOf x = some .cell) (hc : X.env.cells.lookup x = some c) (hf : X.fn x = true)
    (rv : RelV v u) (hu : h'.IsCell c (some u)) (same : Heap.SameBut c s.heap h') : Inv X pins (σ.set i (some v)) H { s with heap := h' } := by
  have old : ∀ b, b ≠ c → ∀ o, s.heap.get? b = some o → h'.get? b = some o := fun b hb o e => (same.2 b hb).trans e
  have cNew : ∀ b o, X.s_0.heap.get? b = some o → b ≠ c := fun b o e z => by
    subst z
    exact absurd (Heap.lt_size e) (Nat.not_lt.mpr (I.ok.cab x b hf hc))
  have cFree : H c = none := I.freeC x c hc
  obtain ⟨w0, oc, hoc, dc⟩ := I.cell x c hc
  refine { ok := I.ok, os := I.os, bare := I.bare, base := ?_, loc := ?_, cell := ?_, free := I.free, freeC := I.freeC, pin := ?_, hok := ?_, len := by rw [List.length_set]; exact I.len }
  · exact {
      keep := fun b o e n hb hx => old b (cNew b o e) o (I.base.keep b o e n hb hx)
      slot := fun b o e n hb hx => (I.base.slot b o e n hb hx).imp fun sl q => old b (cNew b o e) _ q
      free := I.base.free
      there := fun b o e hx => (I.base.there b o e hx).imp fun o' q => old b (cNew b o e) _ q
      tups := I.base.tups
      frzs := I.base.frzs
      tbls := I.base.tbls }
  · obtain ⟨m, hn, hl⟩ := I.loc
    have ne : X.env.locals ≠ c := fun z => I.cne x c hc z.symm
    refine ⟨m, hn.sameBut same ne, fun j y v' ey es vis => ?_⟩
    by_cases hj : i = j
    · subst hj
      have exy : x = y := Option.some.inj (hi.symm.trans ey)
      subst exy
      have hlt : i < σ.length := by rw [I.len]; exact (List.getElem?_eq_some_iff.mp hi).1
      rw [List.getElem?_set_self hlt] at es
      have ev : v = v' := Option.some.inj (Option.some.inj es)
      subst ev
      exact ⟨u, rv, .inr ⟨.inl hk, c, hc, hu⟩⟩
    · rw [List.getElem?_set_ne hj] at es
      obtain ⟨u', ru, lk⟩ := hl j y v' ey es vis
      refine ⟨u', ru, lk.imp (fun z => z) fun ⟨k, c', e', z⟩ => ⟨k, c', e', z.sameBut same fun q => ?_⟩⟩
      subst q
      have := I.ok.inj _ _ _ e' hc
      subst this
      exact hj (nodup_ix nd hi ey)
  · intro y c' e
    by_cases q : c' = c
    · exact ⟨some u, q ▸ hu⟩
    · exact (I.cell y c' e).imp fun _ z => z.sameBut same q
  · intro p hp
    obtain ⟨e, n, n1, n2, d⟩ := I.pin p hp
    refine ⟨old p.1 (fun z => ?_) _ e, n, n1, n2, d⟩
    rw [z, hoc] at e
    exact d w0 ((Option.some.inj e) ▸ dc)
  · intro b ob e
    refine (I.hok b ob e).stay (fun b' o' hb' q => old b' (fun z => ?_) o' q) (fun _ q => q) fun _ _ q => q
    subst z
    rcases hb' with rfl | hb'
    · rw [cFree] at e; cases e
    · rw [cFree] at hb'; cases hb'
/-- the sign's cell holds the very value -/
def Cel (X : Cx) (x : Str) (u : Value) (s : Shared) : Prop := ∃ c, X.env.cells.lookup x = some c ∧ s.heap.IsCell c (some u)
theorem cel_ext {x : Str} {u : Value} {s s' : Shared} (h : Cel X x u s) (k : ∀ b o, s.heap.get? b = some o → s'.heap.get? b = some o) : Cel X x u s' := by
  obtain ⟨c, hc, o, e, d⟩ := h
  exact ⟨c, hc, o, k _ _ e, d⟩
theorem cel_store {i : Nat} {x : Str} {v : V} {u : Value} {E : Value → Shared → Prop} {Q : Unit → Shared → Prop} (I : Inv X pins σ H s) (nd : X.N.Nodup) (hi : X.N[i]? = some x) (hk : X.env.kindOf x = some .cell) (hf : X.fn x = true) (rv : RelV v u)
    (q : ∀ s', Inv X pins (σ.set i (some v)) H s' → Cel X x u s' → s'.toks = s.toks → (∃ c, X.env.cells.lookup x = some c ∧ Heap.SameBut c s.heap s'.heap) → Q () s') : wpAny (model X.prog X.w) X.A (storeName X.env x u) Q E s := by
  obtain ⟨c, hc⟩ := I.ok.has x (.inl hk)
  obtain ⟨w0, z⟩ := I.cell x c hc
  exact wpAny_storeName_cell I.ok.kind hk hc z fun h' h1 h2 => q _ (inv_cell I nd hi hk hc hf rv h1 h2) ⟨c, hc, h1⟩ rfl ⟨c, hc, h2⟩
theorem cel_load {x : Str} {u : Value} {pos : Pos} {Q E : Value → Shared → Prop} (I : Inv X pins σ H s) (hk : X.env.kindOf x = some .cell) (h : Cel X x u s) (q : Q u s) (hd : (x == ("__debug__" : Str)) = false := by decide) : wpAny (model X.prog X.w) X.A (eval (.Name x pos) X.env) Q E s := by
  obtain ⟨c, hc, z⟩ := h
  exact wpAny_Name (wpAny_loadName_cell I.ok.kind hk hc z q) hd
end
end Ow

namespace Ow
open PySem PySem.Spec PyProof.Rows L2 Evl
section
variable {X : Cx} {pins : List (Addr × Obj)} {σ : L2.St} {H : Hp} {s : Shared}
/-- what a slice of a text makes -/
theorem cut_post {l : List Nat} {i : Nat} {t u : Tok} {s : Shared} {Q : Value → Shared → Prop} (hi : i ≤ l.length) (hz : l.length ≤ 100000) (q : ∀ (t' : Tok) k, s.toks ≤ k → Q (.str (tx (l.take i)) t') { s with toks := k }) :
    (sliceMade (tx l) t none (some ((i : Int), u)) none).post Q s := by
  have e1 : PySem.StrLaws.sliceText (tx l) none (some (i : Int)) = tx (l.take i) := by rw [sliceText_cut, cutS_take l i hi]
  have e2 : (tx (l.take i)).length ≤ sizeLine := by
    rw [tx_len, List.length_take]
    exact sz_of (by omega)
  rw [← e1] at q e2
  unfold PySem.StrLaws.sliceText at q e2
  show Made.post (if ((1 : Int) == 1 && (Builtin.Str.strSliceIndices none (some (i : Int)) 1 (tx l).length).length == (tx l).length) = true then Made.val (.str (tx l) t)
    else Made.str ⟨((Builtin.Str.strSliceIndices none (some (i : Int)) 1 (tx l).length).filterMap ((tx l).cps[·]?)).toArray⟩) Q s
  by_cases c : ((1 : Int) == 1 && (Builtin.Str.strSliceIndices none (some (i : Int)) 1 (tx l).length).length == (tx l).length) = true
  · rw [if_pos c] at q ⊢
    exact q t s.toks (Nat.le_refl _)
  · rw [if_neg c] at q e2 ⊢
    exact ⟨e2, q _ _ (Nat.le_succ _)⟩
/-- ahead = rest[:rest.index(sign)] -/
theorem ahead_raw {ir ia : Nat} {rx sx ax : Str} {r : List Nat} {c : Nat} {t : Tok} {p1 p2 p3 p4 p5 p6 p7 apos pos : Pos} {n : Nat} (nd : X.N.Nodup) (I : Inv X pins σ H s) (hn : n ≤ s.toks) (hr : X.N[ir]? = some rx) (vr : Vis X.env.scope rx) (sr : σ[ir]? = some (some (.str (tx r)))) (hz : r.length ≤ 1000)
    (hk : X.env.kindOf sx = some .cell) (hc : Cel X sx (.str (tx [c]) t) s) (hm : c ∈ r) (ha : X.N[ia]? = some ax) (la : X.env.scope.names.lookup ax = some .local) (hne : ax ≠ sx)
    (dr : (rx == ("__debug__" : Str)) = false := by decide) (er : (rx == ("__classdict__" : Str)) = false := by decide) (ds : (sx == ("__debug__" : Str)) = false := by decide)
    (hst : starEach [.Name sx p3] X.env = [(false, eval (.Name sx p3) X.env)] := by rfl)
    (hbase : attributeBase (.Name rx p2) "index" X.env (eval (.Name rx p2) X.env) = eval (.Name rx p2) X.env := by rfl) (hline : (apos.endLine == p4.line) = true := by rfl)
    (hs : swapsWith (.Subscript (.Name rx p1) (.Slice none (some (.Call (.Attribute (.Name rx p2) "index" apos) [.Name sx p3] [] p4)) none p5) p6) (some (.Name ax p7)) pos.line X.env = pure false := by rfl) :
    wpAny (model X.prog X.w) X.A (exec (.Assign [.Name ax p7] (.Subscript (.Name rx p1) (.Slice none (some (.Call (.Attribute (.Name rx p2) "index" apos) [.Name sx p3] [] p4)) none p5) p6) pos) X.env)
      (fun f s' => f = .next ∧ Inv X pins (σ.set ia (some (.str (tx (bef r c))))) H s' ∧ Cel X sx (.str (tx [c]) t) s' ∧ n ≤ s'.toks) X.xe s := by
  refine wpAny_Assign_Name (wpAny_Subscript_str_slice (raw_name hr vr I sr (fun v rv => ?_) dr er)) hs
  obtain ⟨t1, rfl⟩ := rv
  refine PySem.evalPart_none_step (PySem.evalPart_some_step (PySem.Call_method1 hbase hst hline (raw_name hr vr I sr (fun v rv => ?_) dr er)))
  obtain ⟨t2, rfl⟩ := rv
  refine ⟨"str", _, F.plainAttrs_str, F.slot_str_index, F.type_str_index, typeIs_str _ _ _, (fun _ e => nomatch e), Calls.callWith_builtin rfl (Calls.evalArgs_plain (Calls.spliced_cons (cel_load I hk hc (Calls.spliced_nil ?_) ds)))⟩
  obtain ⟨rr, ho⟩ := occ_ix hm
  refine PySem.SC.index ho ⟨tx r, t1, none, some (((bef r c).length : Int), s.toks), rfl, rfl, rfl, cut_post bef_len (by omega) fun t' k hk2 => ?_⟩
  rw [take_ix hm]
  have keep : ∀ b o, s.heap.get? b = some o → (s.heap.push { cls := .type "slice", data := .fields #[.none, .int ((bef r c).length : Int) s.toks, .none] }).get? b = some o := fun b o e => Heap.get?_push_of_some _ e
  have I1 : Inv X pins σ H { s with heap := s.heap.push { cls := .type "slice", data := .fields #[.none, .int ((bef r c).length : Int) s.toks, .none] }, toks := k } := I.kept (t' := k) keep
  have hc1 : Cel X sx (.str (tx [c]) t) { s with heap := s.heap.push { cls := .type "slice", data := .fields #[.none, .int ((bef r c).length : Int) s.toks, .none] }, toks := k } := cel_ext hc keep
  have hk3 : s.toks + 1 ≤ k := hk2
  obtain ⟨cc, hcc, hcell⟩ := hc1
  refine wpAny_mono (PySem.wpAny_toks_of (n := n) (by show n ≤ k; omega) (store_ok2 (v := V.str (tx (bef r c))) (Q := fun _ s' => Inv X pins (σ.set ia (some (.str (tx (bef r c))))) H s' ∧ Cel X sx (.str (tx [c]) t) s') I1 nd ha (.inl la) ⟨t', rfl⟩ (fun s' I' ⟨a, sb, ha2⟩ => ⟨I', cc, hcc, hcell.sameBut sb ?_⟩) (.inr la)))
    (fun _ s' z => ⟨rfl, z.2.1, z.2.2, z.1⟩) fun _ _ z => z.2
  rintro rfl
  rcases ha2 with z | z
  · exact I1.cne sx cc hcc z
  · exact hne (I1.ok.inj _ _ _ z hcc)
end
end Ow

namespace Ow
open PySem PySem.Spec PyProof.Rows L2 Evl
section
variable {X : Cx} {pins : List (Addr × Obj)} {σ : L2.St} {H : Hp} {s : Shared}
theorem paired_get {α β : Type} {F : α → β → Prop} : ∀ {l : List α} {m : List β}, Paired F l m → ∀ (i : Nat) (a : α) (b : β), l[i]? = some a → m[i]? = some b → F a b
  | _, _, .nil, i, a, b, h, _ => by cases h
  | _, _, .cons f r, 0, a, b, h, g => by
    cases h
    cases g
    exact f
  | _, _, .cons f r, i + 1, a, b, h, g => paired_get r i a b h g
theorem paired_len {α β : Type} {F : α → β → Prop} : ∀ {l : List α} {m : List β}, Paired F l m → l.length = m.length
  | _, _, .nil => rfl
  | _, _, .cons f r => congrArg (· + 1) (paired_len r)
/-- all([other not in told[sign] for other in ahead]) -/
theorem all_raw {it ia : Nat} {ox tx' sx ax : Str} {d : Addr} {kvs : List (Key × V)} {a l : List Nat} {c n : Nat} {t : Tok} {scope : Scope} {cl : List (Str × Addr)} {pa po pt ps pss pc pox pax pl pcall : Pos}
    (hcalm : X.calm = true) (I : Inv X pins σ H s) (hn : n ≤ s.toks) (hg : Gl X "all") (hm : X.mg "all" = none)
    (ht : X.N[it]? = some tx') (vt : Vis X.env.scope tx') (st : σ[it]? = some (some (.ref d))) (hd : H d = some (.dK kvs)) (hv : valV kvs (.inr (tx [c])) = some (.str (tx l)))
    (ha : X.N[ia]? = some ax) (va : Vis X.env.scope ax) (sa : σ[ia]? = some (some (.str (tx a)))) (hz : a.length ≤ 1000) (hc : Cel X sx (.str (tx [c]) t) s)
    (hclos : closureFor scope X.env = pure cl) (hcs : cl.lookup sx = X.env.cells.lookup sx) (hct : cl.lookup tx' = X.env.cells.lookup tx') (kt : X.env.kindOf tx' = some .cell)
    (ks2 : ∀ C, (compEnvC scope cl C X.env).kindOf sx = some .cell) (kt2 : ∀ C, (compEnvC scope cl C X.env).kindOf tx' = some .cell) (ko2 : ∀ C, (compEnvC scope cl C X.env).kindOf ox = some .local) (kf : ∀ C, (compEnvC scope cl C X.env).scope.kind = .function)
    (hcell : ∀ y ∈ scope.names, y.2 ≠ .cell) (hkind : scope.kind = .function) (hnames : ∀ y ∈ scope.names, y.2 = .local → scope.names.lookup y.1 = some .local) (hox : scope.names.lookup ox = some .local)
    (da : (ax == ("__debug__" : Str)) = false := by decide) (ea : (ax == ("__classdict__" : Str)) = false := by decide) (dt : (tx' == ("__debug__" : Str)) = false := by decide) (ds : (sx == ("__debug__" : Str)) = false := by decide) (dox : (ox == ("__debug__" : Str)) = false := by decide)
    (hbm : behindInMarks .NotIn (.Subscript (.Name tx' pt) (.Name sx ps) pss) = false := by rfl)
    (hst : ∀ e : Expr, e = .ListComp (.Compare (.Name ox po) [.NotIn] [.Subscript (.Name tx' pt) (.Name sx ps) pss] pc) [⟨.Name ox pox, .Name ax pax, [], 0⟩] scope pl → starEach [e] X.env = (false, eval e X.env) :: starEach [] X.env)
    (hfold : ∀ x, foldedSetIterable (.Name ax pax) X.env x = pure x := by intro _; rfl) :
    wpAny (model X.prog X.w) X.A (eval (.Call (.Name "all" pa) [.ListComp (.Compare (.Name ox po) [.NotIn] [.Subscript (.Name tx' pt) (.Name sx ps) pss] pc) [⟨.Name ox pox, .Name ax pax, [], 0⟩] scope pl] [] pcall) X.env)
      (fun v s' => v = .bool (a.all fun o => !l.contains o) ∧ Inv X pins σ H s' ∧ Cel X sx (.str (tx [c]) t) s' ∧ n ≤ s'.toks) X.xe s := by
  refine wpAny_mono (PySem.wpAny_toks_of hn (Q := fun v s' => v = .bool (a.all fun o => !l.contains o) ∧ Inv X pins σ H s' ∧ Cel X sx (.str (tx [c]) t) s') ?_) (fun v s' z => ⟨z.2.1, z.2.2.1, z.2.2.2, z.1⟩) fun _ _ z => z.2
  have hh := I.ok.hd hcalm
  refine wpAny_Call_Name_kw (ld_blt I hg hm (u := .builtin "all") (by decide +kernel) ?_ (by decide) (by decide))
  refine PyProof.Rows.callWith_builtin1 ?_ (hst _ rfl) rfl
  rw [hst _ rfl]
  show wpAny _ _ (spliced ((false, _) :: [])) _ _ s
  refine Calls.spliced_cons ?_
  refine wpAny_ListComp_free (fun _ => true) (fun v y => ∃ o u, v = .str (tx [o]) u ∧ y = .bool (!l.contains o)) hclos hcell hkind hnames hox (raw_name ha va I sa (fun v rv => ?_) da ea) hfold
  obtain ⟨t1, rfl⟩ := rv
  refine wpAny_pyIter_str fun ob St W hst0 => ?_
  have hlt : ∀ b o, s.heap.get? b = some o → b ∉ [s.heap.objs.size] := fun b o e hb => by
    rw [List.mem_singleton] at hb
    subst hb
    exact Nat.lt_irrefl _ (Heap.lt_size e)
  have hsz : (tx a).cps.size = a.length := by simp [tx]
  refine ⟨s.heap.objs.size, _, _, _, _, St, rfl, W X.A hh, by rw [hsz, sizeLine_eq]; omega, hst0, fun b hb => ?_, ⟨fun C i v s3 m3 E' _ _ _ _ _ _ => wpAny_pure ⟨rfl, _, _, rfl, fun _ _ e => e⟩, fun C i v s3 m3 E' hC hP _ hn3 hm3 hk htk => ?_⟩, fun D h' tk ys vs hD hl hpl hlen hP hF hk => ?_⟩
  · rw [List.mem_singleton] at hb
    subst hb
    show _ < (s.heap.push ob).objs.size
    rw [Heap.size_push]
    exact Nat.lt_succ_self _
  · -- one other
    have keep3 : ∀ b o, s.heap.get? b = some o → s3.heap.get? b = some o := fun b o e => hk b o (hlt b o e) (Heap.get?_push_of_some _ e)
    have I3 : Inv X pins σ H { s with heap := s3.heap, toks := s3.toks } := I.kept keep3
    obtain ⟨o, u, ho, rfl⟩ := hP
    obtain ⟨_, _, vs, rel, dd⟩ := dk_of I3.hok hd
    obtain ⟨w', hw, rw'⟩ := RelO.some_of (v := V.str (tx l)) (o := valueAt vs (.inr (tx [c]))) (by rw [← hv]; exact rel.val _)
    obtain ⟨t2, rfl⟩ := rw'
    obtain ⟨m, hn, hlk⟩ := I3.loc
    obtain ⟨u2, r2, lk⟩ := hlk it tx' (.ref d) ht st vt
    obtain rfl : u2 = Value.ref d := r2
    obtain ⟨c1, e1, o1, g1, d1⟩ := hc
    have cell1 : s3.heap.IsCell c1 (some (.str (tx [c]) t)) := ⟨o1, keep3 _ _ g1, d1⟩
    rcases lk with ⟨k, _⟩ | ⟨_, c2, e2, cell2⟩
    · rw [kt] at k; cases k
    have cell2 : s3.heap.IsCell c2 (some (.ref d)) := cell2
    refine wpAny_Compare1 (wpAny_Name (wpAny_loadName_local (kf C) (ko2 C) hn3 hm3 ?_) dox) hbm
    refine subD_of PySem.F.slot_dict_getitem.lookup (fun _ _ => rfl) (wpAny_Name (wpAny_loadName_cell (kf C) (kt2 C) (hct.trans e2) cell2 (wpAny_Name (wpAny_loadName_cell (kf C) (ks2 C) (hcs.trans e1) cell1 ?_) ds)) dt)
    refine ⟨dd.mapOf.typeIs, wpAny_getItem_of (kV_is (k := .inr (tx [c])) ⟨t, rfl⟩) dd.mapOf hw ?_⟩
    refine PyProof.Rows.notIn_str ⟨⟨o, u, rfl, ?_⟩, _, _, rfl, fun _ _ e => e⟩
    have q := congrArg Bool.not (PySem.StrLaws.found_one (tx l) o).symm
    rw [tx_list] at q
    rw [show (!l.contains o) = !decide (o ∈ l) by rw [List.contains_eq_mem]]
    exact congrArg Value.bool q.symm
  · -- all of them
    refine Calls.spliced_nil ?_
    have fv : vs.filter (fun _ => true) = vs := List.filter_eq_self.mpr fun _ _ => rfl
    rw [fv] at hF
    have ly : ys.size = a.length := by
      have := paired_len hF
      rw [hlen, hsz] at this
      simpa using this.symm
    have dne : D ≠ h'.objs.size := Nat.ne_of_lt (by obtain ⟨_, e, _⟩ := hl; exact Heap.lt_size e)
    refine call_all_walk (wpAny_pyIter_list hl ⟨h'.objs.size, _, _, _, _, _, fun i => !l.contains (a.getD i 0), rfl, Walks.list (A := X.A.in1) hh _ D dne ys, ⟨⟨_, Heap.get?_push_size _ rfl, rfl, rfl⟩, hl.push _⟩, fun i v s4 Q' E' hP' q => ?_, fun h2 tk2 hk2 => ?_⟩)
    · have hi : i < ys.size := (Array.getElem?_eq_some_iff.mp hP').1
      have hi2 : i < vs.length := by rw [hlen, hsz, ← ly]; exact hi
      obtain ⟨o, u, e1, e2⟩ := paired_get hF i vs[i] v (List.getElem?_eq_getElem hi2) (by rw [Array.getElem?_toList]; exact hP')
      obtain ⟨o2, u2, e3, e4⟩ := hP i vs[i] (List.getElem?_eq_getElem hi2)
      rw [e1] at e4
      have eo : o = o2 := by
        have := (Value.str.inj e4).1
        have := congrArg (fun z : Str => z.cps.toList) this
        exact (List.cons.inj this).1
      have eg : a.getD i 0 = o := by
        have : a[i]? = some o2 := by simpa [tx] using e3
        rw [List.getD_eq_getElem?_getD, this, eo]
        rfl
      subst e2
      have q : Q' (!l.contains (a.getD i 0)) s4 := q
      rw [eg] at q
      exact wpAny_truthy_bool q
    · have keep : ∀ b o, s.heap.get? b = some o → h2.get? b = some o := fun b o e => by
        have e1 : h'.get? b = some o := hk b o (hlt b o e) (Heap.get?_push_of_some _ e)
        refine hk2 b o (fun hb => ?_) (Heap.get?_push_of_some _ e1)
        rw [List.mem_singleton] at hb
        subst hb
        exact Nat.lt_irrefl _ (Heap.lt_size e1)
      refine ⟨?_, I.kept (t' := tk2) keep, cel_ext (s' := { s with heap := h2, toks := tk2 }) hc keep⟩
      rw [ly]
      refine congrArg Value.bool ?_
      rw [Bool.eq_iff_iff, List.all_eq_true, List.all_eq_true]
      constructor
      · intro h x hx
        obtain ⟨j, hj, e⟩ := List.getElem_of_mem hx
        have := h j (List.mem_range.mpr hj)
        rwa [List.getD_eq_getElem?_getD, List.getElem?_eq_getElem hj, Option.getD_some, e] at this
      · intro h j hj
        have hj := List.mem_range.mp hj
        rw [List.getD_eq_getElem?_getD, List.getElem?_eq_getElem hj]
        exact h _ (List.getElem_mem hj)
end
end Ow

namespace Ow
open PySem PySem.Spec PyProof.Rows L2 Evl
section
variable {X : Cx} {pins : List (Addr × Obj)} {σ : L2.St} {H : Hp} {s : Shared}
/-- found, rest = found + sign, rest.replace(sign, "") -/
theorem par_raw {ir ifo : Nat} {rx sx fx : Str} {r f : List Nat} {c n : Nat} {t : Tok} {kt k2 j : Nat} {pf pr p1 p2 p3 p4 p5 p6 p7 pt1 pt2 apos pos : Pos} (hcalm : X.calm = true) (nd : X.N.Nodup) (I : Inv X pins σ H s) (hn : n ≤ s.toks)
    (hr : X.N[ir]? = some rx) (lr : X.env.scope.names.lookup rx = some .local) (sr : σ[ir]? = some (some (.str (tx r)))) (hf : X.N[ifo]? = some fx) (lf : X.env.scope.names.lookup fx = some .local) (sf : σ[ifo]? = some (some (.str (tx f))))
    (hij : ifo ≠ ir) (hz : r.length ≤ 1000) (hz2 : f.length ≤ 1000) (hk : X.env.kindOf sx = some .cell) (hc : Cel X sx (.str (tx [c]) t) s) (ht0 : t ≠ 0) (htn : t < n)
    (hw : swappedStores [.Tuple [.Name fx pf, .Name rx pr] kt pt1] (.Tuple [.BinOp (.Name fx p1) .Add (.Name sx p2) p3, .Call (.Attribute (.Name rx p4) "replace" apos) [.Name sx p5, .Constant (.str "") j p6] [] p7] k2 pt2) X.env = pure (some [fx, rx]))
    (hs : swapsWithSole [.Tuple [.Name fx pf, .Name rx pr] kt pt1] (.Tuple [.BinOp (.Name fx p1) .Add (.Name sx p2) p3, .Call (.Attribute (.Name rx p4) "replace" apos) [.Name sx p5, .Constant (.str "") j p6] [] p7] k2 pt2) pos.line X.env = pure false := by rfl)
    (dr : (rx == ("__debug__" : Str)) = false := by decide) (er : (rx == ("__classdict__" : Str)) = false := by decide) (df : (fx == ("__debug__" : Str)) = false := by decide) (ef : (fx == ("__classdict__" : Str)) = false := by decide) (ds : (sx == ("__debug__" : Str)) = false := by decide)
    (hst1 : starEach [.BinOp (.Name fx p1) .Add (.Name sx p2) p3, .Call (.Attribute (.Name rx p4) "replace" apos) [.Name sx p5, .Constant (.str "") j p6] [] p7] X.env = [(false, eval (.BinOp (.Name fx p1) .Add (.Name sx p2) p3) X.env), (false, eval (.Call (.Attribute (.Name rx p4) "replace" apos) [.Name sx p5, .Constant (.str "") j p6] [] p7) X.env)] := by rfl)
    (hst2 : starEach [.Name sx p5, .Constant (.str "") j p6] X.env = [(false, eval (.Name sx p5) X.env), (false, eval (.Constant (.str "") j p6) X.env)] := by rfl)
    (hbase : attributeBase (.Name rx p4) "replace" X.env (eval (.Name rx p4) X.env) = eval (.Name rx p4) X.env := by rfl) (hline : (apos.endLine == p7.line) = true := by rfl) :
    wpAny (model X.prog X.w) X.A (exec (.Assign [.Tuple [.Name fx pf, .Name rx pr] kt pt1] (.Tuple [.BinOp (.Name fx p1) .Add (.Name sx p2) p3, .Call (.Attribute (.Name rx p4) "replace" apos) [.Name sx p5, .Constant (.str "") j p6] [] p7] k2 pt2) pos) X.env)
      (fun fl s' => fl = .next ∧ Inv X pins ((σ.set ifo (some (.str (tx (f ++ [c]))))).set ir (some (.str (tx (r.filter fun x => x != c))))) H s' ∧ n ≤ s'.toks) X.xe s := by
  refine wpAny_mono (PySem.wpAny_toks_of hn (Q := fun fl s' => fl = .next ∧ Inv X pins ((σ.set ifo (some (.str (tx (f ++ [c]))))).set ir (some (.str (tx (r.filter fun x => x != c))))) H s') ?_) (fun v s' z => ⟨z.2.1, z.2.2, z.1⟩) fun _ _ z => z.2
  rw [exec_Assign_arm]
  refine wpAny_bind (wpAny_standAt ?_)
  rw [hs]
  refine wpAny_bind (wpAny_pure ?_)
  rw [if_neg (by decide)]
  refine wpAny_bind (Tuple_ ?_)
  rw [hst1]
  show wpAny _ _ (spliced ((false, _) :: (false, _) :: [])) _ _ s
  refine Calls.spliced_cons (wpAny_mono (PySem.wpAny_toks_of hn (Q := fun v s1 => ∃ (t2 : Tok) (k : Nat), v = Value.str (tx (f ++ [c])) t2 ∧ s1 = { s with toks := k }) (wpAny_BinOp (raw_name hf (.inl lf) I sf (fun v rv => ?_) df ef))) (fun v s1 z => ?_) fun _ _ z => z.2)
  · obtain ⟨t1, rfl⟩ := rv
    refine cel_load I hk hc (PyProof.Rows.add_str (fun t2 tk => ?_) (by rw [tx_len, tx_len]; exact sz_of (by simp; omega))) ds
    rw [tx_app f [c]]
    exact ⟨t2, tk, rfl, rfl⟩
  obtain ⟨k1, t2, k, rfl, rfl⟩ := z
  have k1 : n ≤ k := k1
  have I1 : Inv X pins σ H { s with toks := k } := I.tok k
  have hc1 : Cel X sx (.str (tx [c]) t) { s with toks := k } := hc
  refine Calls.spliced_cons (PySem.Call_method2 hbase hst2 hline (raw_name hr (.inl lr) I1 sr (fun v rv => ?_) dr er))
  obtain ⟨t3, rfl⟩ := rv
  refine ⟨"str", _, F.plainAttrs_str, F.slot_str_replace, F.type_str_replace, typeIs_str _ _ _, (fun _ e => nomatch e), Calls.callWith_builtin rfl (Calls.evalArgs_plain (Calls.spliced_cons (cel_load I1 hk hc1 (Calls.spliced_cons (Calls.Constant_str (Calls.spliced_nil ?_))) ds)))⟩
  have lt : t < k := Nat.lt_of_lt_of_le htn k1
  refine PySem.SC.replace ht0 (Nat.ne_of_gt (Nat.lt_of_le_of_lt (Nat.zero_le _) lt)) (Nat.ne_of_lt lt) rfl ?_ fun t4 k4 => ?_
  · show (tx r).length + ((tx r).length + 1) * 0 ≤ 16777216
    have : (tx r).length = r.length := by simp [tx, Str.length]
    omega
  have er2 : Txt.replace (tx r) (tx [c]) ("" : Str) = tx (r.filter fun x => x != c) := replace_out r c
  rw [er2]
  refine Calls.spliced_nil ?_
  refine wpAny_newObj_type ?_ (by show 2 ≤ sizeLine; decide)
  have I2 : Inv X pins σ H { s with heap := s.heap.push { cls := .type "tuple", data := .seq [Value.str (tx (f ++ [c])) t2, .str (tx (r.filter fun x => x != c)) t4].toArray }, toks := k4 } := I.kept (t' := k4) fun b o e => Heap.get?_push_of_some _ e
  rw [hw]
  refine wpAny_bind (wpAny_pure ?_)
  show wpAny (model X.prog X.w) X.A (do rule "assign.swapped-stores"; let items ← unpackItems (.ref s.heap.objs.size) 2 none; assignInOrder [fun v => bindName X.env rx v, fun v => bindName X.env fx v] items.reverse; pure Flow.next) _ _ _
  refine wpAny_bind (wpAny_rule (wpAny_bind (unpackItems_tuple (items := #[Value.str (tx (f ++ [c])) t2, .str (tx (r.filter fun x => x != c)) t4]) (I.ok.hd hcalm) (IsTup.new s.heap _) fun h' hx' => ?_)))
  have I3 := I2.kept (h' := h') (t' := k4) fun b o e => hx' b o (Nat.ne_of_lt (Heap.lt_size e)) e
  show wpAny _ _ (assignInOrder [fun v => bindName X.env rx v, fun v => bindName X.env fx v] [Value.str (tx (r.filter fun x => x != c)) t4, .str (tx (f ++ [c])) t2] >>= fun _ => pure Flow.next) _ _ _
  refine wpAny_bind (assignInOrder_cons (wpAny_bindName (store_ok (v := V.str (tx (r.filter fun x => x != c))) I3 nd hr (.inl lr) ⟨t4, rfl⟩ (fun s2 I4 => ?_) (.inr lr))))
  refine assignInOrder_cons (wpAny_bindName (store_ok (v := V.str (tx (f ++ [c]))) I4 nd hf (.inl lf) ⟨t2, rfl⟩ (fun s3 I5 => assignInOrder_nil (wpAny_pure ?_)) (.inr lf)))
  rw [List.set_comm _ _ (Ne.symm hij)] at I5
  exact ⟨rfl, I5⟩
end
end Ow

namespace Ow
open PySem PySem.Spec PyProof.Rows L2 Evl
/-! ### the signs of a text, collected: their tokens are new -/
/-- an iterator of a text's signs that gives each the newest token -/
structure Sgn (prog : Program) (w : World) (A : Around) (I : Addr) (l : List Nat) (St : Nat → Heap → Prop) : Prop where
  go : ∀ (i c : Nat) (s : Shared) (Q : Option Value → Shared → Prop) (E : Value → Shared → Prop), l[i]? = some c → St i s.heap → (∀ h', St (i + 1) h' → (∀ b o, b ≠ I → s.heap.get? b = some o → h'.get? b = some o) →
    Q (some (.str (tx [c]) s.toks)) { s with heap := h', toks := s.toks + 1 }) → wpAny (model prog w) A (pyNext (.ref I)) Q E s
  fin : ∀ (s : Shared) (Q : Option Value → Shared → Prop) (E : Value → Shared → Prop), St l.length s.heap → (∀ h', (∀ b o, b ≠ I → s.heap.get? b = some o → h'.get? b = some o) → Q none { s with heap := h' }) → wpAny (model prog w) A (pyNext (.ref I)) Q E s
  keep : ∀ i h h', St i h → (∀ o, h.get? I = some o → h'.get? I = some o) → St i h'
theorem sgn_iter {prog : Program} {w : World} {A : Around} {E : Value → Shared → Prop} {s : Shared} {l : List Nat} {t : Tok} {Q : Value → Shared → Prop}
    (q : ∀ (o : Obj) (St : Nat → Heap → Prop), (∀ A' : Around, A'.handled = none → Sgn prog w A' s.heap.objs.size l St) → St 0 (s.heap.push o) → Q (.ref s.heap.objs.size) { s with heap := s.heap.push o }) : wpAny (model prog w) A (pyIter (.str (tx l) t)) Q E s := by
  have at_ : ∀ i c, l[i]? = some c → (tx l).cps[i]? = some c := fun i c h => (List.getElem?_toArray (xs := l) (i := i)).trans h
  have none_ : (tx l).cps[l.length]? = none := by simp [tx]
  cases ha : (tx l).cps.all (· < 128)
  · refine wpAny_pyIter_wide ha (q _ (fun i h => h.IsStrIter s.heap.objs.size "str_iterator" (tx l) t i) (fun A' hA => ⟨fun i c s' Q E h st k => ?_, fun s' Q E st k => ?_, fun i h h' st k => ?_⟩) ⟨_, Heap.get?_push_size _ rfl, rfl, rfl⟩)
    · exact wpAny_pyNext_wide_item st (at_ i c h) fun h' st' sb => k h' st' fun b o hb e => (sb.2 b hb).trans e
    · exact wpAny_pyNext_wide_end hA st none_ fun h' eb => k h' fun b o hb e => eb b o hb e
    · obtain ⟨o, ho, r⟩ := st
      exact ⟨o, k o ho, r⟩
  · refine wpAny_pyIter_ascii ha (q _ (fun i h => h.IsStrIter s.heap.objs.size "str_ascii_iterator" (tx l) t i) (fun A' hA => ⟨fun i c s' Q E h st k => ?_, fun s' Q E st k => ?_, fun i h h' st k => ?_⟩) ⟨_, Heap.get?_push_size _ rfl, rfl, rfl⟩)
    · exact wpAny_pyNext_ascii_item st (at_ i c h) fun h' st' sb => k h' st' fun b o hb e => (sb.2 b hb).trans e
    · exact wpAny_pyNext_ascii_end hA st none_ fun h' eb => k h' fun b o hb e => eb b o hb e
    · obtain ⟨o, ho, r⟩ := st
      exact ⟨o, k o ho, r⟩
section
variable {prog : Program} {w : World} {A : Around} {I S : Addr} {l : List Nat} {St : Nat → Heap → Prop} {R : Result → Shared → Prop} {res : Value}
theorem ext_tok (W : Sgn prog w A.in1 I l St) (hz : l.length ≤ 100000) (ne : S ≠ I) : ∀ (k i : Nat) (s : Shared) (its : List Value) (c : Nat), l.length - i = k → i ≤ l.length → St i s.heap → 1 ≤ s.toks →
    s.heap.get? S = some { cls := .type "list", dict := none, data := .seq its.toArray c, slots := #[] } → Its s.toks (l.take i) its →
    (∀ s' its' c', s.toks ≤ s'.toks → s'.gens = s.gens → s'.drawn = s.drawn → s'.os = s.os → (∀ b o, b ≠ S → b ≠ I → s.heap.get? b = some o → s'.heap.get? b = some o) →
      s'.heap.get? S = some { cls := .type "list", dict := none, data := .seq its'.toArray c', slots := #[] } → Its s'.toks l its' → R (.ok (.ret res)) s') →
    codeAny (model prog w) A (.builtin "list.extend.loop" ⟨[.ref S, .ref I, res], []⟩) R s := by
  intro k
  induction k with
  | zero =>
    intro i s its c hk hi st h1 hS hI q
    obtain rfl : i = l.length := by omega
    rw [List.take_length] at hI
    refine codeAny_builtin F.entry_extend_loop ?_
    rw [Around.under_plainId F.plain_extend_loop _]
    show wpAny _ A.in1 (pyNext (.ref I) >>= _) _ _ _
    exact wpAny_bind (W.fin s _ _ st fun h' kp => wpAny_pure (q { s with heap := h' } its c (Nat.le_refl _) rfl rfl rfl (fun b o _ hb e => kp b o hb e) (kp S _ ne hS) hI))
  | succ k ih =>
    intro i s its c hk hi st h1 hS hI q
    have hlt : i < l.length := by omega
    have hx : l[i]? = some l[i] := List.getElem?_eq_getElem hlt
    have hsz : its.length = i := by rw [hI.1, List.length_take]; omega
    refine codeAny_builtin F.entry_extend_loop ?_
    rw [Around.under_plainId F.plain_extend_loop _]
    show wpAny _ A.in1 (pyNext (.ref I) >>= _) _ _ _
    refine wpAny_bind (W.go i l[i] s _ _ hx st fun h' st' kp => ?_)
    have hS' : h'.get? S = some { cls := .type "list", dict := none, data := .seq its.toArray c, slots := #[] } := kp S _ ne hS
    show wpAny _ A.in1 (updateSeq S (·.push (Value.str (tx [l[i]]) s.toks)) >>= _) _ _ _
    have nx : Its (s.toks + 1) (l.take (i + 1)) (its ++ [Value.str (tx [l[i]]) s.toks]) := by
      rw [List.take_add_one, hx]
      exact (hI.mono (Nat.le_succ _)).snoc (Nat.ne_of_gt h1) (Nat.lt_succ_self _)
    have ea : its.toArray.push (Value.str (tx [l[i]]) s.toks) = (its ++ [Value.str (tx [l[i]]) s.toks]).toArray := by simp
    have up := PySem.IsL.update (h := h') (l := S) (items := its.toArray) (n := c) hS' (fun a => a.push (Value.str (tx [l[i]]) s.toks))
    obtain ⟨c2, g3⟩ : ∃ c2, (h'.update S (Obj.mapSeq fun a => a.push (Value.str (tx [l[i]]) s.toks))).get? S = some { cls := .type "list", data := .seq (its.toArray.push (Value.str (tx [l[i]]) s.toks)) c2 } := ⟨_, up⟩
    rw [ea] at g3
    have oth : ∀ b o, b ≠ S → h'.get? b = some o → (h'.update S (Obj.mapSeq fun a => a.push (Value.str (tx [l[i]]) s.toks))).get? b = some o := fun b o hb e => (Heap.get?_update_other h' _ (Ne.symm hb)).trans e
    have st2 : St (i + 1) (h'.update S (Obj.mapSeq fun a => a.push (Value.str (tx [l[i]]) s.toks))) := W.keep _ _ _ st' fun o e => oth I o (Ne.symm ne) e
    refine wpAny_bind (wpAny_updateSeq (s := { s with heap := h', toks := s.toks + 1 }) hS' rfl (wpAny_pure ⟨plainId_quiet F.plain_extend_loop _, ?_⟩) (by rw [List.size_toArray, hsz, sizeLine_eq]; omega) (by rw [ea, List.size_toArray, List.length_append, hsz, sizeLine_eq]; simp; omega))
    refine ih (i + 1) { s with heap := h'.update S (Obj.mapSeq fun a => a.push (Value.str (tx [l[i]]) s.toks)), toks := s.toks + 1 } _ c2 (by omega) hlt st2 (Nat.le_succ_of_le h1) g3 nx fun s2 its2 c3 a1 a2 a3 a4 a5 a6 a7 => ?_
    have a1 : s.toks + 1 ≤ s2.toks := a1
    exact q s2 its2 c3 (by omega) a2 a3 a4 (fun b o h1 h2 e => a5 b o h1 h2 (oth b o h1 (kp b o h2 e))) a6 a7
end
section
variable {prog : Program} {w : World} {A : Around} {E : Value → Shared → Prop} {s : Shared}
theorem collect_tok {l : List Nat} {t : Tok} {Q : List Value → Shared → Prop} (hh : A.handled = none) (h1 : 1 ≤ s.toks) (hz : l.length ≤ 100000)
    (q : ∀ s' its, s.toks ≤ s'.toks → s'.gens = s.gens → s'.drawn = s.drawn → s'.os = s.os → (∀ b o, s.heap.get? b = some o → s'.heap.get? b = some o) → Its s'.toks l its → Q its s') : wpAny (model prog w) A (collect (.str (tx l) t)) Q E s := by
  unfold collect
  refine wpAny_bind (wpAny_runValue (codeAny_builtin F.entry_proto_collect ?_))
  rw [Around.under_plainId F.plain_proto_collect _]
  show wpAny _ A.in1 (newList [] >>= fun a => again (.builtin "list.__iadd__" ⟨[a, .str (tx l) t], []⟩)) _ _ s
  refine wpAny_bind (wpAny_newObj_type (wpAny_pure ⟨plainId_quiet F.plain_list_iadd _, codeAny_builtin F.entry_list_iadd ?_⟩))
  rw [Around.under_plainId F.plain_list_iadd _]
  show wpAny _ A.in1 (Builtin.List.listExtendWith (.ref s.heap.objs.size) (.str (tx l) t) (.ref s.heap.objs.size)) _ _ _
  unfold Builtin.List.listExtendWith
  refine wpAny_bind (wpAny_typeOf (T := "str") (v := .str (tx l) t) rfl ?_)
  have n1 : Builtin.List.listSameRef (.ref s.heap.objs.size) (.str (tx l) t) = false := rfl
  have n3 : (Value.type "str" == Value.type "list") = false ∧ (Value.type "str" == Value.type "tuple") = false := ⟨by decide, by decide⟩
  simp only [n1, n3.1, n3.2, Bool.or_false, Bool.false_eq_true, if_false]
  refine wpAny_bind (sgn_iter fun ob St W st => wpAny_bind (wpAny_holding ?_))
  unfold Builtin.List.listLengthHint
  refine wpAny_bind (wpAny_specialOf (T := "str") (v := .str (tx l) t) rfl F.str_len ?_)

  wp_delta
  refine wpAny_bind (wpAny_isInstance (T := "str") (v := .str (tx l) t) (b := true) rfl (by rw [isSubtype_type]; kernel_rfl) ?_)
  show wpAny _ A.in1 (typeOf (Value.str (tx l) t) >>= _) _ _ _
  refine wpAny_bind (wpAny_typeOf (T := "str") (v := .str (tx l) t) rfl (wpAny_pure ?_))
  rw [if_neg (by decide)]
  generalize hG : s.heap.push { cls := .type "list", data := .seq ([] : List Value).toArray } = G at W st ⊢
  have gs : G.objs.size = s.heap.objs.size + 1 := by rw [← hG, Heap.size_push]
  have old : ∀ b o, s.heap.get? b = some o → (G.push ob).get? b = some o ∧ b ≠ s.heap.objs.size ∧ b ≠ G.objs.size := fun b o e => by
    have lt := Heap.lt_size e
    exact ⟨Heap.get?_push_of_some _ (hG ▸ Heap.get?_push_of_some _ e), Nat.ne_of_lt lt, by rw [gs]; exact Nat.ne_of_lt (Nat.lt_succ_of_lt lt)⟩
  have new : (G.push ob).get? s.heap.objs.size = some { cls := .type "list", data := .seq ([] : List Value).toArray } := Heap.get?_push_of_some _ (hG ▸ Heap.get?_push_size _ rfl)
  refine wpAny_pure ⟨plainId_quiet F.plain_extend_loop _, ext_tok (W A.in1 hh) hz (by rw [gs]; exact Nat.ne_of_lt (Nat.lt_succ_self _)) l.length 0 _ [] 0 (by omega) (Nat.zero_le _) st h1 new ⟨by simp, fun i u e => by cases e⟩ fun s' its c' k1 k2 k3 k4 k5 k6 k7 => ?_⟩
  show wpAny _ A (load s.heap.objs.size >>= _) _ _ s'
  refine wpAny_bind (wpAny_load k6 (wpAny_pure ?_))
  exact q s' its k1 k2 k3 k4 (fun b o e => by
    obtain ⟨a, b1, b2⟩ := old b o e
    exact k5 b o b1 b2 a) k7
end
end Ow

namespace Ow
open PySem PySem.Spec PyProof.Rows L2 Evl
theorem its_of : ∀ {us : List Value} {zs : List Nat} {B : Nat}, StrsAre us (zs.map one1) → (∀ u ∈ us, ∃ (y : Str) (t : Tok), u = .str y t ∧ t ≠ 0 ∧ t < B) → Its B zs us := by
  intro us
  induction us with
  | nil =>
    intro zs B h _
    cases zs with
    | nil => exact ⟨rfl, fun i u e => by cases e⟩
    | cons z r => cases h
  | cons u us ih =>
    intro zs B h g
    cases zs with
    | nil => cases h
    | cons z r =>
      cases h with
      | cons y t h' =>
        obtain ⟨a, b⟩ := ih h' fun u hu => g u (List.mem_cons_of_mem _ hu)
        refine ⟨congrArg (· + 1) a, fun i v e => ?_⟩
        cases i with
        | zero =>
          cases e
          obtain ⟨y2, t2, e2, n0, lt⟩ := g _ List.mem_cons_self
          cases e2
          exact ⟨_, rfl, n0, lt⟩
        | succ i => exact b i v e
section
variable {X : Cx} {pins : List (Addr × Obj)} {σ : L2.St} {H : Hp} {s : Shared}
theorem sort_raw {l : List Nat} {t : Tok} {Q E : Value → Shared → Prop} (hcalm : X.calm = true) (I : Inv X pins σ H s) (h1 : 1 ≤ s.toks) (h64 : l.length < 64)
    (q : ∀ s' p its zs m, Inv X pins σ H s' → s.toks ≤ s'.toks → FpOk X pins H p → s'.heap.get? p = some { cls := .type "list", data := .seq its.toArray m } → Its s'.toks zs its → zs.Perm l → zs.Pairwise (· ≤ ·) → Q (.ref p) s') :
    wpAny (model X.prog X.w) X.A (call (.builtin "sorted") [.str (tx l) t]) Q E s := by
  refine Calls.call_function_entry PyProof.Rows.kind_sorted PyProof.Rows.plain_sorted PyProof.Rows.entry_sorted (PyProof.Rows.args_sorted1 _) ?_
  unfold Builtin.«sorted»
  refine wpAny_bind (m := checkCount "sorted" 1 1 _) (wpAny_pure ?_)
  refine wpAny_bind (collect_tok (A := X.A.in1) (I.ok.hd hcalm) h1 (by omega) fun s' us k1 hg hd ho hk hI => ?_)
  have hS : StrsAre us (l.map one1) := signs_are (fun j v e => by
    obtain ⟨u, e2, _⟩ := hI.2 j v e
    have hj : j < l.length := by rw [← hI.1]; exact (List.getElem?_eq_some_iff.mp e).1
    refine ⟨l.getD j 0, u, ?_, e2⟩
    rw [List.getD_eq_getElem?_getD, List.getElem?_eq_getElem hj]
    rfl) hI.1
  obtain ⟨h', g', d', tk, o'⟩ := s'
  obtain rfl : g' = s.gens := hg
  obtain rfl : d' = s.drawn := hd
  obtain rfl : o' = s.os := ho
  have I1 : Inv X pins σ H { s with heap := h', toks := tk } := I.kept hk
  have lu : us.length < 64 := by rw [hI.1]; exact h64
  refine wpAny_bind (wpAny_newList ?_ (by rw [sizeLine_eq]; omega))
  have laid : (h'.push (seqObj "list" us.toArray 0)).get? h'.objs.size = some (seqObj "list" us.toArray 0) := Heap.get?_push_size _ rfl
  show wpAny _ _ _ _ _ { s with heap := h'.push (seqObj "list" us.toArray 0), toks := tk }
  refine wpAny_bind (wpAny_holding (wpAny_call_entry PyProof.Rows.slot_list_sort ⟨_, laid, rfl⟩ PyProof.Rows.entry_list_sort
    (list_sort_treeK strKind_oneLt (s := { s with heap := h'.push (seqObj "list" us.toArray 0), toks := tk }) laid hS.keysOf (fun v₁ v₂ rest e => keyKind_strs (by rw [← e]; exact hS)) lu fun st' hp hs => ⟨_, rfl, ?_⟩) (PyProof.Rows.args_list_sort _)))
  obtain ⟨ys, g1, g2, g3⟩ := sorted_out_str hS hp hs
  obtain ⟨zs, rfl, z1, z2⟩ := sorted_ones g2 g3
  obtain ⟨e', he'⟩ := PyProof.Rows.sortedHeap_at (vs := us) (out := (arrOf st').map (·.2)) laid
  have old : ∀ b o, h'.get? b = some o → (sortedHeap (h'.push (seqObj "list" us.toArray 0)) h'.objs.size us ((arrOf st').map (·.2))).get? b = some o := fun b o e => by
    have lt := Heap.lt_size e
    rw [PyProof.Rows.sortedHeap_old (Nat.ne_of_lt lt) (by rw [size_push']; exact Nat.lt_succ_of_lt lt)]
    exact Heap.get?_push_of_some _ e
  have fp := I1.fpOk (Nat.le_refl _) (I1.hok.fresh (Nat.le_refl _))
  refine wpAny_pure ⟨_, rfl, q _ h'.objs.size ((arrOf st').map (·.2)).toList zs e' (I1.kept (t' := tk) old) k1 fp (by rw [Array.toArray_toList]; exact he') (its_of g1 fun u hu => ?_) z1 z2⟩
  have hl : (arrOf st').toList.Perm (us.zip us) := by rw [← pairsOf_toList]; exact Array.perm_iff_toList_perm.mp hp
  rw [Array.toList_map] at hu
  obtain ⟨p, hp2, rfl⟩ := List.mem_map.mp hu
  obtain ⟨m1, m2⟩ := mem_zip_self (hl.mem_iff.mp hp2)
  rw [← m1]
  obtain ⟨i, hi, e⟩ := List.getElem_of_mem m2
  obtain ⟨t2, e2, n0, lt⟩ := hI.2 i _ (by rw [List.getElem?_eq_getElem hi, e])
  exact ⟨_, t2, e2, n0, lt⟩
end
end Ow

namespace Ow
open PySem PySem.Spec PyProof.Rows L2 Evl
def St7 (d : Addr) (so : Option V) (r f : List Nat) (o4 o5 : Option V) : L2.St := [some (.ref d), so, some (.str (tx r)), some (.str (tx f)), o4, o5, none]
/-- the first free sign of an ascending row is the least of them -/
theorem least_first {F : Nat → Nat → Bool} {r zs : List Nat} {i : Nat} (nd : r.Nodup) (hp : zs.Perm r) (hs : zs.Pairwise (· ≤ ·)) (hi : i < zs.length) (hno : ∀ j, j < i → zs.getD j 0 ∉ frees F r) (hf : zs.getD i 0 ∈ frees F r) : leastOf (frees F r) = zs.getD i 0 := by
  have ne : frees F r ≠ [] := fun e => by rw [e] at hf; cases hf
  obtain ⟨m1, m2⟩ := least_in ne
  have hm : leastOf (frees F r) ∈ zs := hp.mem_iff.mpr ((mem_frees nd).mp m1).1
  obtain ⟨j, hj, e⟩ := List.getElem_of_mem hm
  have ej : zs.getD j 0 = leastOf (frees F r) := by rw [List.getD_eq_getElem?_getD, List.getElem?_eq_getElem hj]; exact e
  have ei : zs.getD i 0 = zs[i] := by rw [List.getD_eq_getElem?_getD, List.getElem?_eq_getElem hi]; rfl
  refine Nat.le_antisymm (m2 _ hf) ?_
  by_cases h : j < i
  · exact absurd (ej ▸ m1) (hno j h)
  · rcases Nat.lt_or_eq_of_le (Nat.le_of_not_lt h) with h | h
    · rw [ei, ← e]
      exact List.pairwise_iff_getElem.mp hs i j hi hj h
    · subst h
      exact Nat.le_of_eq ej
section
variable {X : Cx} {H : Hp} {d : Addr} {so : Option V} {F : Nat → Nat → Bool}
/-- what the loop's body does -/
def Bdy (X : Cx) (H : Hp) (d : Addr) (so : Option V) (nl : Nat) (F : Nat → Nat → Bool) (sx : Str) (body : List Stmt) : Prop := ∀ (pins : List (Addr × Obj)) (s : Shared) (n c : Nat) (t : Tok) (r f : List Nat) (o5 : Option V), r.Nodup → Lt nl r → r.length ≤ 10 → f.length ≤ 10 →
  Inv X pins (St7 d so r f (some (.str (tx [c]))) o5) H s → Cel X sx (.str (tx [c]) t) s → t ≠ 0 → t < n → n ≤ s.toks → c ∈ r →
  wpAny (model X.prog X.w) X.A (execs body X.env) (fun fl s' => n ≤ s'.toks ∧ ∃ o5, (fl = .next ∧ c ∉ frees F r ∧ Inv X pins (St7 d so r f (some (.str (tx [c]))) o5) H s') ∨
    (fl = .brk ∧ c ∈ frees F r ∧ Inv X pins (St7 d so (r.filter fun x => x != c) (f ++ [c]) (some (.str (tx [c]))) o5) H s')) X.xe s
theorem for_raw {nl : Nat} {sx rx : Str} {body : List Stmt} {px p1 p2 p3 pos : Pos} {pins : List (Addr × Obj)} {s : Shared} {n : Nat} {r f : List Nat} {o4 o5 : Option V} (hp : PassesOwn (model X.prog X.w) X.A X.env X.xe) (hcalm : X.calm = true) (hB : Bdy X H d so nl F sx body) (nd : X.N.Nodup)
    (hg : Gl X "sorted") (hm : X.mg "sorted" = none) (h2 : X.N[2]? = some rx) (lr : X.env.scope.names.lookup rx = some .local) (h4 : X.N[4]? = some sx) (hk : X.env.kindOf sx = some .cell) (hfn : X.fn sx = true)
    (rn : r.Nodup) (rl : Lt nl r) (rz : r.length ≤ 10) (fz : f.length ≤ 10) (rne : r ≠ []) (I : Inv X pins (St7 d so r f o4 o5) H s) (h1 : 1 ≤ n) (hn : n ≤ s.toks)
    (dr : (rx == ("__debug__" : Str)) = false := by decide) (er : (rx == ("__classdict__" : Str)) = false := by decide)
    (hst : starEach [.Name rx p2] X.env = [(false, eval (.Name rx p2) X.env)] := by rfl) (hs : ∀ x, foldedSetIterable (.Call (.Name "sorted" p1) [.Name rx p2] [] p3) X.env x = pure x := by intro _; rfl) :
    wpAny (model X.prog X.w) X.A (exec (.For (.Name sx px) (.Call (.Name "sorted" p1) [.Name rx p2] [] p3) body [] pos) X.env)
      (fun fl s' => fl = .next ∧ n ≤ s'.toks ∧ ∃ o4 o5, Inv X pins (St7 d so (r.filter fun x => x != leastOf (frees F r)) (f ++ [leastOf (frees F r)]) o4 o5) H s') X.xe s := by
  have hh := I.ok.hd hcalm
  refine wpAny_For (wpAny_Call_Name_kw (ld_blt I hg hm (u := .builtin "sorted") (by decide +kernel) ?_ (by decide) (by decide))) hs
  refine PyProof.Rows.callWith_builtin1 ?_ hst rfl
  rw [hst]
  show wpAny _ _ (spliced ((false, _) :: [])) _ _ s
  refine Calls.spliced_cons (raw_name h2 (.inl lr) I rfl (fun v rv => Calls.spliced_nil ?_) dr er)
  obtain ⟨t1, rfl⟩ := rv
  refine sort_raw hcalm I (Nat.le_trans h1 hn) (by omega) fun s1 p its zs m I1 k1 fp hg1 hI z1 z2 => ?_
  have hL : s1.heap.IsList p its.toArray := ⟨_, hg1, rfl, m, rfl⟩
  refine wpAny_pyIter_list hL ?_
  have it0 : s1.heap.objs.size = s1.heap.objs.size := rfl
  generalize hit : s1.heap.objs.size = it at it0
  clear it0
  have plt : p < it := hit ▸ Heap.lt_size hg1
  -- the list pinned
  have I2 : Inv X (pins ++ pinsAt [p] s1.heap) (St7 d so r f o4 o5) H s1 := I1.pinned (fun b hb => by rw [List.mem_singleton] at hb; subst hb; exact fp) fun b hb => by
    rw [List.mem_singleton] at hb
    subst hb
    exact ⟨_, hg1, fun v z => by cases z⟩
  have fit : FpOk X (pins ++ pinsAt [p] s1.heap) H it := I2.fpOk (Nat.le_of_eq hit) (I2.hok.fresh (Nat.le_of_eq hit))
  have I3 : Inv X (pins ++ pinsAt [p] s1.heap) (St7 d so r f o4 o5) H { s1 with heap := s1.heap.push { cls := .type "list_iterator", data := .fields #[.ref p, .int 0 0] } } := I2.kept (t' := s1.toks) fun b o e => Heap.get?_push_of_some _ e
  have it3 : (s1.heap.push { cls := .type "list_iterator", data := .fields #[.ref p, .int 0 0] }).IsListIter it p 0 := ⟨_, hit ▸ Heap.get?_push_size _ rfl, rfl, rfl⟩
  refine codeAny_forLoop_any (fun k s' => ∃ i o4 o5, k = zs.length - i ∧ i ≤ zs.length ∧ s1.toks ≤ s'.toks ∧ Inv X (pins ++ pinsAt [p] s1.heap) (St7 d so r f o4 o5) H s' ∧ s'.heap.IsListIter it p i ∧ ∀ j, j < i → zs.getD j 0 ∉ frees F r) ?_ zs.length
    ⟨0, o4, o5, by omega, Nat.zero_le _, Nat.le_refl _, I3, it3, fun j hj => absurd hj (Nat.not_lt_zero _)⟩
  rintro k s4 ⟨i, q4, q5, rfl, hi, k4, I4, it4, no4⟩
  have hlt : i < zs.length := by
    rcases Nat.lt_or_eq_of_le hi with h | h
    · exact h
    · exfalso
      obtain ⟨m1, _⟩ := least_in (frees_ne (F := F) rne)
      obtain ⟨j, hj, e⟩ := List.getElem_of_mem (z1.mem_iff.mpr ((mem_frees rn).mp m1).1)
      refine no4 j (by omega) ?_
      rw [List.getD_eq_getElem?_getD, List.getElem?_eq_getElem hj, Option.getD_some, e]
      exact m1
  have hpin : ∀ {σ : L2.St} {s' : Shared} {pl : List (Addr × Obj)}, Inv X pl σ H s' → (∀ q ∈ pinsAt [p] s1.heap, q ∈ pl) → s'.heap.IsList p its.toArray := fun J sub =>
    ⟨_, (J.pin (p, _) (List.mem_append_right _ (sub _ (mem_pinsAt List.mem_cons_self hg1)))).1, rfl, m, rfl⟩
  have hui : i < its.length := by rw [hI.1]; exact hlt
  obtain ⟨t, eu, t0, tlt⟩ := hI.2 i its[i] (List.getElem?_eq_getElem hui)
  have cr : zs.getD i 0 ∈ r := by
    rw [List.getD_eq_getElem?_getD, List.getElem?_eq_getElem hlt]
    exact z1.mem_iff.mp (List.getElem_mem hlt)
  obtain ⟨f0, f1, f2, f3, f4, f5⟩ := id fit
  refine wpAny_passesOwn hp (wpAny_pyNext_list_item it4 (hpin I4 fun q hq => List.mem_append_right _ hq) (x := its[i]) (by simp [hui]) fun h5 it5 sb5 => ?_)
  have I5 : Inv X (pins ++ pinsAt [p] s1.heap) (St7 d so r f q4 q5) H { s4 with heap := h5 } := I4.turned (t' := s4.toks) (fun b o hb e => (sb5.2 b hb).trans e) f0 f1 f3 f4 f5
  obtain ⟨oi, ei, ci, di⟩ := id it5
  refine wpAny_passesOwn hp (go_of (s := { s4 with heap := h5 }) ei ci di (by decide) ?_)
  rw [eu]
  refine wpAny_passesOwn hp (wpAny_assign_Name (cel_store (v := V.str (tx [zs.getD i 0])) I5 nd h4 hk hfn ⟨t, rfl⟩ fun s6 I6 c6 tk6 ⟨cc, hcc, sb6⟩ => ?_))
  have I6 : Inv X (pins ++ pinsAt [p] s1.heap) (St7 d so r f (some (.str (tx [zs.getD i 0]))) q5) H s6 := I6
  have it6 : s6.heap.IsListIter it p (i + 1) := it5.at fun o e => (sb6.2 it (fun z => f4 sx cc hcc z.symm)).trans e
  obtain ⟨oj, ej, cj, dj⟩ := id it6
  have I7 := I6.pinned (fp := [it]) (fun b hb => by rw [List.mem_singleton] at hb; subst hb; exact fit) fun b hb => by
    rw [List.mem_singleton] at hb
    subst hb
    exact ⟨oj, ej, fun v z => by rw [dj] at z; cases z⟩
  have k6 : s1.toks ≤ s6.toks := by rw [tk6]; exact k4
  refine wpAny_passesOwn hp (thn (hB _ s6 s1.toks (zs.getD i 0) t r f q5 rn rl rz fz I7 c6 t0 tlt k6 cr) fun fl s7 ⟨k7, o5', h7⟩ => ?_)
  rcases h7 with ⟨rfl, nf7, J⟩ | ⟨rfl, in7, J⟩
  · refine ⟨zs.length - (i + 1), by omega, i + 1, _, o5', rfl, hlt, k7, J.unpinned, ⟨oj, (J.pin (it, oj) (List.mem_append_right _ (List.mem_append_right _ (mem_pinsAt List.mem_cons_self ej)))).1, cj, dj⟩, fun j hj => ?_⟩
    rcases Nat.lt_or_eq_of_le (Nat.le_of_lt_succ hj) with h | h
    · exact no4 j h
    · rw [h]; exact nf7
  · have e := least_first rn z1 z2 hlt no4 in7
    rw [e]
    exact ⟨rfl, Nat.le_trans hn (Nat.le_trans k1 k7), _, o5', (J.unpinned).unpinned⟩
end
end Ow

namespace Ow
open PySem PySem.Spec PyProof.Rows L2 Evl
section
variable {X : Cx}
def PTk (X : Cx) (k : Nat) (e : Expr) (t : TT) : Prop := ∀ (pins : List (Addr × Obj)) (s : Shared) (σ : L2.St) (H : Hp) (Q : Bool → Hp → Prop), Inv X pins σ H s → t σ H Q →
  wpAny (model X.prog X.w) X.A (isTrue e X.env (eval e X.env)) (fun b s' => k ≤ s'.toks ∧ TP X pins σ Q b s') X.xe s
theorem ptk_cmp {op : CmpOp} {r : R2} {a : Expr} {ta : TE} {x : Str} {j : Nat} {cp pos : Pos} (ho : OpR X (compareOp op) r) (ha : PE X a ta) (hm : behindInMarks op (.Constant (.str x) j cp) = false) : PTk X 1 (.Compare a [op] [.Constant (.str x) j cp] pos) (tTest (tOp r ta (tC (.str x)))) := by
  intro pins s σ H Q I h
  refine wpAny_isTrue_Compare1 (thn (ha.run pins s σ H _ I h) fun v s1 ⟨y, H1, I1, r1, q1⟩ => Calls.Constant_str ?_) hm
  refine wpAny_mono (PySem.wpAny_toks_of (n := 1) (Nat.succ_le_succ (Nat.zero_le _)) (ho pins { s1 with toks := s1.toks + 1 } σ H1 y (.str x) v _ _ (I1.tok _) r1 ⟨_, rfl⟩ q1)) (fun c s3 z => ?_) fun _ _ z => z.2
  obtain ⟨k1, z, H3, I3, r3, b, e, q3⟩ := z
  subst e
  cases r3
  exact wpAny_truthy_bool ⟨k1, H3, I3, q3⟩
/-- while, its test gives a token -/
def nWhile (k : Nat) (tc : TT) (tb : TSn) : TSn := fun D n σ H => ∃ W : Nat → Nat → L2.St → Hp → Prop, (∃ m, W m n σ H) ∧ ∀ m n σ H, W m n σ H → tc σ H fun b H1 => ∀ n', n ≤ n' → k ≤ n' →
  if b = true then ∃ N : Nat → L2.St → Hp → Prop, (∀ n2 σ' H', N n2 σ' H' → ∃ m', m' < m ∧ W m' n2 σ' H') ∧ tb (fun j => { D j with nx := N j, ct := N j, bk := (D j).nx }) n' σ H1 else (D n').nx σ H1
theorem psn_while {k : Nat} {c : Expr} {body : List Stmt} {tc : TT} {tb : TSn} {pos : Pos} (hp : PassesOwn (model X.prog X.w) X.A X.env X.xe) (hc : PTk X k c tc) (hb : PSsn X body tb) : PSn X (.While c body [] pos) (nWhile k tc tb) := by
  intro pins s σ H D n h0 I h
  obtain ⟨W, ⟨m0, w0⟩, turn⟩ := h
  refine wpAny_While (codeAny_whileLoop (fun m s' => ∃ n σ' H', n ≤ s'.toks ∧ Inv X pins σ' H' s' ∧ W m n σ' H') ?_ m0 ⟨n, σ, H, h0, I, w0⟩)
  rintro m s1 ⟨n1, σ1, H1, k1, I1, w1⟩
  refine wpAny_passesOwn hp (wpAny_mono (PySem.wpAny_toks_of k1 (hc pins s1 σ1 H1 _ I1 (turn m n1 σ1 H1 w1))) (fun b s2 z => ?_) fun _ _ z => z.2)
  obtain ⟨k2, kk, H2, I2, q2⟩ := z
  have q2 := q2 s2.toks k2 kk
  cases b with
  | true =>
    rw [if_pos rfl] at q2
    obtain ⟨N, hN, q2⟩ := q2
    rw [if_pos rfl]
    refine wpAny_passesOwn hp (thn (hb pins s2 σ1 H2 _ s2.toks (Nat.le_refl _) I2 q2) fun f s3 ⟨n3, k3, q3⟩ => ?_)
    cases f with
    | next =>
      obtain ⟨σ3, H3, I3, w3⟩ := q3
      obtain ⟨m', hm, w3⟩ := hN n3 σ3 H3 w3
      exact ⟨m', hm, n3, σ3, H3, k3, I3, w3⟩
    | cont =>
      obtain ⟨σ3, H3, I3, w3⟩ := q3
      obtain ⟨m', hm, w3⟩ := hN n3 σ3 H3 w3
      exact ⟨m', hm, n3, σ3, H3, k3, I3, w3⟩
    | brk => exact ⟨n3, k3, q3⟩
    | ret v => exact ⟨n3, k3, q3⟩
  | false =>
    rw [if_neg Bool.false_ne_true] at q2
    rw [if_neg Bool.false_ne_true]
    exact wpAny_execs_nil ⟨s2.toks, Nat.le_refl _, σ1, H2, I2, q2⟩
end
end Ow

namespace Ow
open PySem PySem.Spec PyProof.Rows L2 Evl
def nLo : TSn := fun D n σ H => ∃ (d : Addr) (F : Nat → Nat → Bool) (nl : Nat) (so : Option V) (r f : List Nat) (o4 o5 : Option V), σ = St7 d so r f o4 o5 ∧ Told F nl H d ∧ r.Nodup ∧ Lt nl r ∧ r.length ≤ 10 ∧ f.length ≤ 10 ∧ r ≠ [] ∧ 1 ≤ n ∧
  ∀ o4 o5, (D n).nx (St7 d so (r.filter fun x => x != leastOf (frees F r)) (f ++ [leastOf (frees F r)]) o4 o5) H
theorem free_all {F : Nat → Nat → Bool} {r l : List Nat} {c : Nat} (rn : r.Nodup) (hc : c ∈ r) (hl : ∀ x, x ∈ l ↔ F x c = true) : ((bef r c).all fun o => !l.contains o) = true ↔ c ∈ frees F r := by
  rw [mem_frees rn, List.all_eq_true]
  constructor
  · intro h
    refine ⟨hc, fun a ha => ?_⟩
    have := h a ha
    cases e : F a c with
    | false => rfl
    | true =>
      rw [show l.contains a = true from List.contains_iff_mem.mpr ((hl a).mpr e)] at this
      cases this
  · rintro ⟨_, h⟩ a ha
    cases e : l.contains a with
    | false => rfl
    | true =>
      have := (hl a).mp (List.contains_iff_mem.mp e)
      rw [h a ha] at this
      cases this
theorem n_seqPar {i j n : Nat} {ta : TA} {u : TSn} {D : En} {σ : L2.St} {H : Hp} {v w : V} (h : EvA ta σ H [v, w]) (k : ∀ H1, Ex H H1 → u D n ((σ.set i (some v)).set j (some w)) H1) : nSeq (up (tPar i j ta)) u D n σ H :=
  h H (Ex.refl H) _ fun H1 e => ⟨v, w, rfl, k H1 e⟩
section
variable {P : Program} {w : World} {K : PySem.W.Frag} {mg : Str → Option Value} {base : Heap} (T : Txt K mg)
theorem ok_least_order : FnOk P w K mg base CX0 1 T.least_order.f T.least_order.d ["told", "order"] spLeast := by
  refine T.least_order.F.ok sc_least_order (fun vs H Q E h => ?_) (fun cdv A outer s H vs Q E hr h => ?_)
  · obtain ⟨d, F, n, word, rfl, _⟩ := h
    rfl
  · obtain ⟨d, F, n, word, rfl, hT, hn4, hw, k⟩ := h
    refine ⟨_, pss_of (pssn_cons (psn_up (ps_par (i := 2) (j := 3) rfl sc_least_order.nd rfl rfl (by decide) rfl rfl (pa_cons (pv 1) (pa_cons pe_str pa_nil)) (by rfl)))
      (pssn_cons (psn_while PassesOwn.never (ptk_cmp op_ne (pv 2) (nomark _)) (pssn_one (t := nLo) (fun pins s σ H D n h0 I h => by
        obtain ⟨d, F, nl, so, r, f, o4, o5, rfl, hT, rn, rl, rz, fz, rne, n1, q⟩ := h
        obtain ⟨kvs, hd, hk⟩ := hT.ex
        refine thn (for_raw (nl := nl) (F := F) (sx := "sign") (rx := "rest") PassesOwn.never rfl (fun pins s n c t r f o5 rn rl rz fz I hc t0 tn hn cr => ?_) sc_least_order.nd (by rfl) T.z_sorted rfl rfl rfl rfl rfl rn rl rz fz rne I n1 h0) fun fl s' ⟨e, k1, o4, o5, J⟩ => ?_
        · obtain ⟨c1, c2⟩ := rl c cr
          obtain ⟨l, hv, hl1, hl2⟩ := hk c c1 c2
          have lb : (bef r c).length ≤ r.length := bef_len
          refine wpAny_execs_cons (thn (ahead_raw (ir := 2) (ia := 5) sc_least_order.nd I hn rfl (.inl rfl) rfl (by omega) rfl hc cr rfl rfl (by decide)) fun f0 s1 ⟨e0, I1, cel1, k1⟩ => ?_)
          subst e0
          obtain ⟨cs, ecs⟩ := I1.ok.has "sign" (.inl rfl)
          obtain ⟨ct, ect⟩ := I1.ok.has "told" (.inl rfl)
          have fx : ∀ {x : Option Addr} {a : Addr}, x = some a → some (x.getD 0) = x := fun h => by rw [h]; rfl
          refine wpAny_execs_cons (wpAny_If (isTrue_plain ?_ rfl))
          refine thn (all_raw (it := 0) (ia := 5) (t := t) (kvs := kvs) (l := l) (c := c) (a := bef r c) (n := n) (d := d) (pins := pins) (H := H) (s := s1) (tx' := "told") (sx := "sign") (ax := "ahead") (ox := "other") rfl I1 k1 ?_ T.z_all rfl (.inr (.inl rfl)) rfl hd hv rfl (.inl rfl) rfl ?_ cel1
            (closure_ok ?_) ?_ ?_ ?_ ?_ ?_ ?_ ?_ ?_ ?_ ?_ ?_ (hst := ?_) (hbm := ?_) (da := ?_) (ea := ?_) (dt := ?_) (ds := ?_) (dox := ?_)) ?_
          any_goals first | exact fx ecs | exact fx ect | (show (bef r c).length ≤ 1000; omega)
          any_goals first | (intro C; rfl) | (decide +kernel) | rfl
          any_goals (intro e he; subst he; rfl)
          · intro y hy e
            rcases List.mem_cons.mp hy with rfl | hy
            · cases e
            rcases List.mem_cons.mp hy with rfl | hy
            · cases e
            rcases List.mem_cons.mp hy with rfl | hy
            · exact ⟨cs, ecs⟩
            rcases List.mem_cons.mp hy with rfl | hy
            · exact ⟨ct, ect⟩
            cases hy
          · rintro v s2 ⟨e2, I2, cel2, k2⟩
            subst e2
            refine wpAny_truthy_bool ?_
            cases hb : ((bef r c).all fun o => !l.contains o) with
            | true =>
              rw [if_pos rfl]
              refine wpAny_execs_cons (thn (par_raw (ir := 2) (ifo := 3) (r := r) (f := f) rfl sc_least_order.nd I2 k2 rfl rfl rfl rfl rfl rfl (by decide) (by omega) (by omega) rfl cel2 t0 tn (by rfl)) fun f0 s3 ⟨e, J, k3⟩ => ?_)
              subst e
              exact wpAny_execs_cons (wpAny_Break ⟨k3, _, .inr ⟨rfl, (free_all rn cr hl2).mp hb, J⟩⟩)
            | false =>
              rw [if_neg Bool.false_ne_true]
              refine wpAny_execs_nil (wpAny_execs_nil ⟨k2, _, .inl ⟨rfl, fun h => ?_, I2⟩⟩)
              rw [(free_all rn cr hl2).mpr h] at hb
              cases hb
        · subst e
          exact ⟨n, k1, _, H, J, q o4 o5⟩))) (pssn_one (psn_up (ps_ret (pv 3)))))), ?_⟩
    have wz := Lt.nodup_len hw
    show nSeq _ _ _ 0 _ H
    refine n_seqPar (v := .str (tx word)) (w := .str "") (ea_cons (ev_var rfl) (ea_cons ev_c ea_nil)) fun H1 e1 => ?_
    refine ⟨fun m n' σ' H' => ∃ r f o4 o5, σ' = St7 d (some (.str (tx word))) r f o4 o5 ∧ Ex H H' ∧ r.Nodup ∧ Lt n r ∧ r.length = m ∧ f.length + r.length = word.length ∧ f ++ nfk F r.length r = nf F word, ⟨word.length, word, [], none, none, rfl, e1, hw.nd, hw.lt, rfl, by simp, rfl⟩, ?_⟩
    rintro m n' σ' H' ⟨r, f, o4, o5, rfl, e2, rn, rl, rfl, hz, hf⟩
    refine et_test (b := !(r == ([] : List Nat))) (by
      have h := ev_op (ta := tVar 2) (tb := tC (.str "")) (σ := St7 d (some (.str (tx word))) r f o4 o5) (H := H') (x := .str (tx r)) (y := .str (tx [])) (ev_var rfl) ev_c (rv_ne rfl)
      rw [vtx_dec] at h
      exact h) H' (Ex.refl H') _ fun H2 e3 n2 h2 h3 => ?_
    refine ite2 (fun hb => ?_) (fun hb => ?_)
    · have rne : r ≠ [] := fun e => by rw [e] at hb; exact absurd hb (by decide)
      obtain ⟨m1, m2⟩ := least_in (frees_ne (F := F) rne)
      have mr : leastOf (frees F r) ∈ r := freesA_sub r [] _ m1
      have fl1 := filter_ne_length rn mr
      refine ⟨fun n' σ' H' => ∃ r2 f2 o4 o5, σ' = St7 d (some (.str (tx word))) r2 f2 o4 o5 ∧ Ex H H' ∧ r2.Nodup ∧ Lt n r2 ∧ r2.length + 1 = r.length ∧ f2.length + r2.length = word.length ∧ f2 ++ nfk F r2.length r2 = nf F word, fun n3 σ3 H3 ⟨r2, f2, q4, q5, a1, a2, a3, a4, a5, a6, a7⟩ => ⟨r2.length, by omega, r2, f2, q4, q5, a1, a2, a3, a4, rfl, a6, a7⟩, ?_⟩
      refine ⟨d, F, n, _, r, f, o4, o5, rfl, hT.mono (e2.trans e3), rn, rl, by omega, by omega, rne, h3, fun q4 q5 => ⟨_, _, q4, q5, rfl, e2.trans e3, rn.filter _, fun x hx => rl x (List.mem_filter.mp hx).1, fl1, by simp; omega, ?_⟩⟩
      rw [← hf, ← fl1, List.append_assoc]
      rfl
    · have r0 : r = [] := by
        cases r with
        | nil => rfl
        | cons x t => exact absurd rfl hb
      subst r0
      have hf : f ++ [] = nf F word := hf
      rw [List.append_nil] at hf
      show tRet (tVar 3) _ _ H2
      refine s_ret (ev_var rfl) (fun H5 e5 => ?_)
      have := k H5 ((e2.trans e3).trans e5)
      rw [← hf] at this
      exact this
end
end Ow

namespace Ow
open PySem PySem.Spec PyProof.Rows L2
def lawLevel : Nat := 12
theorem law_all {P : Program} {w : World} {K : PySem.W.Frag} {mg : Str → Option Value} {base : Heap} (T : Txt K mg) : FnOk P w K mg base CX0 6 T.law.f T.law.d ["_law_script"] (spLaw K) := by
  have least := ok_least_order (P := P) (w := w) (base := base) T
  have frs := ok_friends_of_all (P := P) (w := w) (base := base) T
  have iskind := ok_is_kind T (ok_is_set T) frs least
  have nkind := ok_need_kind T iskind
  have ncomp := ok_need_company (P := P) (w := w) (base := base) T (ok_tuple_of T) (ok_within T)
  have two := ok_need_two T ncomp nkind frs
  have two2 := ok_need_two2 T ncomp nkind frs
  have join := ok_joined T least
  have taken := ok_taken (P := P) (w := w) (base := base) T
  have kind := ok_kind T (ok_firsts T) (ok_friend (P := P) (w := w) (base := base) T)
  have word := ok_word T taken
  exact ok_law T (ok_company T taken (ok_pairs T)) (ok_kinds T (ok_lots T (ok_sets T)) (ok_kinds_of T (ok_orders T) kind)) (ok_drawn_kind T taken word kind) (ok_pick T taken) kind (ok_begins T kind) (ok_alike T)
    (ok_common T two (ok_common_of T least)) (ok_bound T two (ok_bound_of T join)) (ok_do_commute T two2 join) (ok_put T two2 join)
theorem end_mk {P : Program} {w : World} {K : PySem.W.Frag} {mg : Str → Option Value} {fa : Addr} (hfa : mg "law" = some (.ref fa)) (T : Txt K mg) :
    ∃ fd : FuncData, (∀ (s : Shared) (v : Value), BindsTo s fd ⟨[v], []⟩ [("_law_script", v)]) ∧ ∀ base : Heap, K.In base → base.Ns mainGlobals mg → FnOk P w K mg base CX0 lawLevel fa fd ["_law_script"] (spLaw K) := by
  have e2 := T.law.g.symm.trans hfa
  cases e2
  exact ⟨T.law.d, fun s v => T.law.bt s [v] rfl, fun base _ _ => (law_all T).mono (by decide)⟩
end Ow

open PySem PySem.W PyProof.Rows
set_option maxRecDepth 100000 in
set_option maxHeartbeats 0 in
theorem PySem.Challenge.cw_oncewords_k11_whole_common_kinds_holds : PySem.Challenge.rw_oncewords_k11_whole_common_kinds.Holds := by
  w_on; o_law; k_head; (case hw => w_witness2)
  k_fill
  refine L2.walk_of (l := PySem.Challenge.rw_oncewords_k11_whole_common_kinds) (n := 63) (k := Ow.lawLevel) (x := "_law_script") (CX := fun _ => L2.CX0) (sp := fun w => Ow.spLaw _) rfl (by decide) rfl ⟨rfl, by decide, by decide⟩ (fun w h Y => PySem.W.kIn_of Y) ?F (fun _ _ a ns hl _ hS => ⟨a, ns, rfl, hS, hl, fun _ => rfl⟩) (fun _ _ _ _ _ h => h)
  case F =>
    intro w mg fa h KX G hmg
    refine' Ow.end_mk hmg { whole := Ow.df_mk KX G ?a0 ?l0 ?c0 ?k0 (fun _ _ _ _ _ _ us hl => match us, hl with | [_], _ => rfl), within := Ow.df_mk KX G ?a1 ?l1 ?c1 ?k1 (fun _ _ _ _ _ _ us hl => match us, hl with | [_, _, _], _ => rfl), tuple_of := Ow.df_mk KX G ?a2 ?l2 ?c2 ?k2 (fun _ _ _ _ _ _ us hl => match us, hl with | [_, _, _], _ => rfl), need_company := Ow.df_mk KX G ?a3 ?l3 ?c3 ?k3 (fun _ _ _ _ _ _ us hl => match us, hl with | [_], _ => rfl), is_set := Ow.df_mk KX G ?a4 ?l4 ?c4 ?k4 (fun _ _ _ _ _ _ us hl => match us, hl with | [_, _], _ => rfl), friends_of_all := Ow.df_mk KX G ?a5 ?l5 ?c5 ?k5 (fun _ _ _ _ _ _ us hl => match us, hl with | [_], _ => rfl), least_order := Ow.df_mk KX G ?a6 ?l6 ?c6 ?k6 (fun _ _ _ _ _ _ us hl => match us, hl with | [_, _], _ => rfl), is_kind := Ow.df_mk KX G ?a7 ?l7 ?c7 ?k7 (fun _ _ _ _ _ _ us hl => match us, hl with | [_, _], _ => rfl), need_kind := Ow.df_mk KX G ?a8 ?l8 ?c8 ?k8 (fun _ _ _ _ _ _ us hl => match us, hl with | [_, _], _ => rfl), joined := Ow.df_mk KX G ?a9 ?l9 ?c9 ?k9 (fun _ _ _ _ _ _ us hl => match us, hl with | [_, _, _], _ => rfl), need_two := Ow.df_mk KX G ?a10 ?l10 ?c10 ?k10 (fun _ _ _ _ _ _ us hl => match us, hl with | [_, _, _], _ => rfl), common_of := Ow.df_mk KX G ?a11 ?l11 ?c11 ?k11 (fun _ _ _ _ _ _ us hl => match us, hl with | [_, _, _], _ => rfl), common := Ow.df_mk KX G ?a12 ?l12 ?c12 ?k12 (fun _ _ _ _ _ _ us hl => match us, hl with | [_, _, _], _ => rfl), bound_of := Ow.df_mk KX G ?a13 ?l13 ?c13 ?k13 (fun _ _ _ _ _ _ us hl => match us, hl with | [_, _, _], _ => rfl), bound := Ow.df_mk KX G ?a14 ?l14 ?c14 ?k14 (fun _ _ _ _ _ _ us hl => match us, hl with | [_, _, _], _ => rfl), need_two2 := Ow.df_mk KX G ?a15 ?l15 ?c15 ?k15 (fun _ _ _ _ _ _ us hl => match us, hl with | [_, _, _], _ => rfl), put := Ow.df_mk KX G ?a16 ?l16 ?c16 ?k16 (fun _ _ _ _ _ _ us hl => match us, hl with | [_, _, _], _ => rfl), do_commute := Ow.df_mk KX G ?a17 ?l17 ?c17 ?k17 (fun _ _ _ _ _ _ us hl => match us, hl with | [_, _, _], _ => rfl), l_taken := Ow.df_mk KX G ?a18 ?l18 ?c18 ?k18 (fun _ _ _ _ _ _ us hl => match us, hl with | [_, _], _ => rfl), l_pairs := Ow.df_mk KX G ?a19 ?l19 ?c19 ?k19 (fun _ _ _ _ _ _ us hl => match us, hl with | [_], _ => rfl), l_company := Ow.df_mk KX G ?a20 ?l20 ?c20 ?k20 (fun _ _ _ _ _ _ us hl => match us, hl with | [_, _], _ => rfl), l_sets := Ow.df_mk KX G ?a21 ?l21 ?c21 ?k21 (fun _ _ _ _ _ _ us hl => match us, hl with | [_], _ => rfl), l_lots := Ow.df_mk KX G ?a22 ?l22 ?c22 ?k22 (fun _ _ _ _ _ _ us hl => match us, hl with | [_], _ => rfl), l_firsts := Ow.df_mk KX G ?a23 ?l23 ?c23 ?k23 (fun _ _ _ _ _ _ us hl => match us, hl with | [_], _ => rfl), l_friend := Ow.df_mk KX G ?a24 ?l24 ?c24 ?k24 (fun _ _ _ _ _ _ us hl => match us, hl with | [_, _, _], _ => rfl), l_kind := Ow.df_mk KX G ?a25 ?l25 ?c25 ?k25 (fun _ _ _ _ _ _ us hl => match us, hl with | [_, _], _ => rfl), l_orders := Ow.df_mk KX G ?a26 ?l26 ?c26 ?k26 (fun _ _ _ _ _ _ us hl => match us, hl with | [_], _ => rfl), l_kinds_of := Ow.df_mk KX G ?a27 ?l27 ?c27 ?k27 (fun _ _ _ _ _ _ us hl => match us, hl with | [_, _], _ => rfl), l_kinds := Ow.df_mk KX G ?a28 ?l28 ?c28 ?k28 (fun _ _ _ _ _ _ us hl => match us, hl with | [_], _ => rfl), l_word := Ow.df_mk KX G ?a29 ?l29 ?c29 ?k29 (fun _ _ _ _ _ _ us hl => match us, hl with | [_, _, _], _ => rfl), l_drawn_kind := Ow.df_mk KX G ?a30 ?l30 ?c30 ?k30 (fun _ _ _ _ _ _ us hl => match us, hl with | [_, _], _ => rfl), l_pick := Ow.df_mk KX G ?a31 ?l31 ?c31 ?k31 (fun _ _ _ _ _ _ us hl => match us, hl with | [_, _], _ => rfl), l_begins := Ow.df_mk KX G ?a32 ?l32 ?c32 ?k32 (fun _ _ _ _ _ _ us hl => match us, hl with | [_, _, _], _ => rfl), l_alike := Ow.df_mk KX G ?a33 ?l33 ?c33 ?k33 (fun _ _ _ _ _ _ us hl => match us, hl with | [_, _], _ => rfl), law := Ow.df_mk KX G ?a34 ?l34 ?c34 ?k34 (fun _ _ _ _ _ _ us hl => match us, hl with | [_], _ => rfl), z_isinstance := PySem.W.mg_none_of KX G ?z_isinstance, z_int := PySem.W.mg_none_of KX G ?z_int, z_bool := PySem.W.mg_none_of KX G ?z_bool, z_tuple := PySem.W.mg_none_of KX G ?z_tuple, z_str := PySem.W.mg_none_of KX G ?z_str, z_list := PySem.W.mg_none_of KX G ?z_list, z_len := PySem.W.mg_none_of KX G ?z_len, z_all := PySem.W.mg_none_of KX G ?z_all, z_range := PySem.W.mg_none_of KX G ?z_range, z_enumerate := PySem.W.mg_none_of KX G ?z_enumerate, z_sorted := PySem.W.mg_none_of KX G ?z_sorted, z_min := PySem.W.mg_none_of KX G ?z_min, z_max := PySem.W.mg_none_of KX G ?z_max, z_set := PySem.W.mg_none_of KX G ?z_set, alpha := Ow.alpha_mk KX G ?al, most := Ow.most_mk KX G ?ml, nbf := Ow.nb_mk KX G ?nG ?nX ?nK ?nB ?nT ?nI ?nS }
    (case a0 => k_is)
    (case l0 => k_is)
    (case c0 => k_is)
    (case k0 => k_is)
    (case a1 => k_is)
    (case l1 => k_is)
    (case c1 => k_is)
    (case k1 => k_is)
    (case a2 => k_is)
    (case l2 => k_is)
    (case c2 => k_is)
    (case k2 => k_is)
    (case a3 => k_is)
    (case l3 => k_is)
    (case c3 => k_is)
    (case k3 => k_is)
    (case a4 => k_is)
    (case l4 => k_is)
    (case c4 => k_is)
    (case k4 => k_is)
    (case a5 => k_is)
    (case l5 => k_is)
    (case c5 => k_is)
    (case k5 => k_is)
    (case a6 => k_is)
    (case l6 => k_is)
    (case c6 => k_is)
    (case k6 => k_is)
    (case a7 => k_is)
    (case l7 => k_is)
    (case c7 => k_is)
    (case k7 => k_is)
    (case a8 => k_is)
    (case l8 => k_is)
    (case c8 => k_is)
    (case k8 => k_is)
    (case a9 => k_is)
    (case l9 => k_is)
    (case c9 => k_is)
    (case k9 => k_is)
    (case a10 => k_is)
    (case l10 => k_is)
    (case c10 => k_is)
    (case k10 => k_is)
    (case a11 => k_is)
    (case l11 => k_is)
    (case c11 => k_is)
    (case k11 => k_is)
    (case a12 => k_is)
    (case l12 => k_is)
    (case c12 => k_is)
    (case k12 => k_is)
    (case a13 => k_is)
    (case l13 => k_is)
    (case c13 => k_is)
    (case k13 => k_is)
    (case a14 => k_is)
    (case l14 => k_is)
    (case c14 => k_is)
    (case k14 => k_is)
    (case a15 => k_is)
    (case l15 => k_is)
    (case c15 => k_is)
    (case k15 => k_is)
    (case a16 => k_is)
    (case l16 => k_is)
    (case c16 => k_is)
    (case k16 => k_is)
    (case a17 => k_is)
    (case l17 => k_is)
    (case c17 => k_is)
    (case k17 => k_is)
    (case a18 => k_is)
    (case l18 => k_is)
    (case c18 => k_is)
    (case k18 => k_is)
    (case a19 => k_is)
    (case l19 => k_is)
    (case c19 => k_is)
    (case k19 => k_is)
    (case a20 => k_is)
    (case l20 => k_is)
    (case c20 => k_is)
    (case k20 => k_is)
    (case a21 => k_is)
    (case l21 => k_is)
    (case c21 => k_is)
    (case k21 => k_is)
    (case a22 => k_is)
    (case l22 => k_is)
    (case c22 => k_is)
    (case k22 => k_is)
    (case a23 => k_is)
    (case l23 => k_is)
    (case c23 => k_is)
    (case k23 => k_is)
    (case a24 => k_is)
    (case l24 => k_is)
    (case c24 => k_is)
    (case k24 => k_is)
    (case a25 => k_is)
    (case l25 => k_is)
    (case c25 => k_is)
    (case k25 => k_is)
    (case a26 => k_is)
    (case l26 => k_is)
    (case c26 => k_is)
    (case k26 => k_is)
    (case a27 => k_is)
    (case l27 => k_is)
    (case c27 => k_is)
    (case k27 => k_is)
    (case a28 => k_is)
    (case l28 => k_is)
    (case c28 => k_is)
    (case k28 => k_is)
    (case a29 => k_is)
    (case l29 => k_is)
    (case c29 => k_is)
    (case k29 => k_is)
    (case a30 => k_is)
    (case l30 => k_is)
    (case c30 => k_is)
    (case k30 => k_is)
    (case a31 => k_is)
    (case l31 => k_is)
    (case c31 => k_is)
    (case k31 => k_is)
    (case a32 => k_is)
    (case l32 => k_is)
    (case c32 => k_is)
    (case k32 => k_is)
    (case a33 => k_is)
    (case l33 => k_is)
    (case c33 => k_is)
    (case k33 => k_is)
    (case a34 => k_is)
    (case l34 => k_is)
    (case c34 => k_is)
    (case k34 => k_is)
    (case z_isinstance => k_is)
    (case z_int => k_is)
    (case z_bool => k_is)
    (case z_tuple => k_is)
    (case z_str => k_is)
    (case z_list => k_is)
    (case z_len => k_is)
    (case z_all => k_is)
    (case z_range => k_is)
    (case z_enumerate => k_is)
    (case z_sorted => k_is)
    (case z_min => k_is)
    (case z_max => k_is)
    (case z_set => k_is)
    (case al => k_is)
    (case ml => k_is)
    (case nG => k_is)
    (case nX => k_exc)
    (case nK => k_is)
    (case nB => k_is)
    (case nT => k_is)
    (case nI => k_is)
    (case nS => first | rfl | k_is)

